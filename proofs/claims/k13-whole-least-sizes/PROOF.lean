import PyProof.Rows.All
import Wide.All
import OpenK.AllK
import Wide.FinOn
import HandS.ForMost
import HandS.Head0
import HandS.Head1
import HandS.Head2
import HandS.HeadEnd
import HandS.HeadHook1
import HandS.HeadHook2
import HandS.HeadHook3
import HandS.HeadWalk
import KE.KNestM
import HandS.Lambda
import HandS.Star
import HandS.Exc
import HandS.ExcOwn
import HandS.Flow
import HandS.IsInst
import HandS.Deep
import HandS.Wide
import HandS.RaiseMore
import HandS.TupAny
import HandS.Small
import HandS.WordsExc
import HandS.Walk
import HandS.Zip
import HandS.Style
import HandS.More
import HandS.TupMul
import HandS.SortInts
import HandS.Text
import HandS.Conv
import HandS.Property
import HandS.MakeKw
import HandS.ClsMeth
import HandS.MakeKwOnly
import HandS.Set
import HandS.SetKeys
import HandS.Strs
import HandS.SetBool
import HandS.Comp
import KE.KSortRegAny
import HandS.DictComp
import HandS.TupSets
import HandS.CallLocal
import HandS.NoneIn
import PyProof.Draws
import HandS.BoundDict
import HandS.DictTup
import HandS.Dict
import HandS.List
import HandS.SortKw
import HandS.SetFor
import KE.SortUse
import PySem.Challenge.RW_quietsides_k13_whole_least_sizes
set_option Elab.async false
set_option linter.all false
set_option maxRecDepth 100000
set_option maxHeartbeats 1000000
/-! The end of a law by one kernel run of the program's top: what is looked at, and what it tells. -/
namespace HX
open PySem PySem.Spec PyProof.Rows L2
abbrev Fr := PySem.W.Frag
/-- a def: where it stands, its name, qualified name, parameters, body, scope; no defaults -/
structure DefX where
  adr : Fr → Addr
  name : Str
  qual : Str
  params : Arguments
  body : List Stmt
  scope : Scope
def prF (K : Fr) (p : Addr) : Addr := match PySem.W.recIn K p "property" with
  | some (.ref f :: _) => f
  | _ => 0
def prB (K : Fr) (p : Addr) : Bool := match PySem.W.recIn K p "property" with
  | some (.ref _ :: _) => true
  | _ => false
theorem prB_ok {K : Fr} {p : Addr} (h : prB K p = true) : ∃ r, PySem.W.recIn K p "property" = some (.ref (prF K p) :: r) := by
  unfold prB at h
  unfold prF
  split at h
  · rename_i f r e
    exact ⟨r, by rw [e]⟩
  · cases h
def kwAt (f : Str × Option Str) (x : Str) (K : Fr) : Addr := match K.lookup (He.fAd K f) with
  | some ⟨_, _, .func fd, _⟩ => (match fd.kwdefaults with
    | .ref D => (match PySem.W.nsIn K D x with
      | some (some (.ref a)) => a
      | _ => 0)
    | _ => 0)
  | _ => 0
def unitB (K : Fr) (a : Addr) : Bool := match K.lookup a with
  | some ⟨.type c, _, .seq its _, _⟩ => decide (c = "tuple") && its.isEmpty
  | _ => false
theorem unitB_ok {K : Fr} {a : Addr} (h : unitB K a = true) : ∃ dct m sl, K.lookup a = some ⟨.type "tuple", dct, .seq #[] m, sl⟩ := by
  unfold unitB at h
  split at h
  · rename_i c d its n sl e
    obtain ⟨h1, h2⟩ := He.ba h
    have e1 : c = "tuple" := of_decide_eq_true h1
    have e2 : its = #[] := Array.isEmpty_iff.mp h2
    subst e1 e2
    exact ⟨_, _, _, e⟩
  · cases h
def fnAt (K : Fr) (a : Addr) : He.FnV := match K.lookup a with
  | some ⟨_, _, .func fd, _⟩ => some (fd.name, fd.qualname, fd.params, fd.body, fd.scope, fd.globals, fd.closure, fd.defaults, fd.builtins)
  | _ => none
def DefX.val (d : DefX) : He.FnV := some (d.name, d.qual, d.params, .stmts d.body, d.scope, mainGlobals, [], .none, builtinsNs)
def codeB (K : Fr) (d : DefX) : Bool := match K.lookup (d.adr K) with
  | some ⟨_, _, .func fd, _⟩ => PySem.W.codeIn K fd.code d.qual
  | _ => false
theorem fn_ok {K : Fr} {d : DefX} (e : fnAt K (d.adr K) = d.val) (c : codeB K d = true) :
    ∃ oc od osl kV doc pm an cdv ct, K.lookup (d.adr K) = some ⟨oc, od, .func (PySem.W.fnOf d.name d.qual d.params d.body d.scope .none kV doc pm an cdv ct), osl⟩ ∧ PySem.W.codeIn K cdv d.qual = true := by
  unfold codeB at c
  unfold fnAt at e
  cases q : K.lookup (d.adr K) with
  | none =>
    rw [q] at c
    cases c
  | some o =>
    obtain ⟨oc, od, dt, osl⟩ := o
    rw [q] at c e
    cases dt with
    | func fd =>
      obtain ⟨n1, n2, n3, n4, n5, n6, n7, n8, n9, n10, n11, n12, n13, n14, n15⟩ := fd
      have e2 : (some (n1, n2, n3, n4, n5, n6, n7, n8, n15) : He.FnV) = some (d.name, d.qual, d.params, .stmts d.body, d.scope, mainGlobals, [], .none, builtinsNs) := e
      simp only [Option.some.injEq, Prod.mk.injEq] at e2
      obtain ⟨h1, h2, h3, h4, h5, h6, h7, h8, h9⟩ := e2
      subst h1 h2 h3 h4 h5 h6 h7 h8 h9
      exact ⟨oc, od, osl, n9, n10, n11, n12, n13, n14, rfl, c⟩
    | _ => cases c
/-! ### tables -/
def entI (e : DictEntry) : Option (Str × Int) := match e.key, e.val with
  | .str k _, .int n _ => some (k, n)
  | _, _ => none
def entR (e : DictEntry) : Option (Str × Addr) := match e.key, e.val with
  | .str k _, .ref f => some (k, f)
  | _, _ => none
def entB (K : Fr) (a : Addr) (tab : List (Str × Int)) : Bool := match K.lookup a with
  | some ⟨_, _, .dict es _, _⟩ => decide (es.toList.map entI = tab.map some)
  | _ => false
def entRB (K : Fr) (a : Addr) (tab : List (Str × Addr)) : Bool := match K.lookup a with
  | some ⟨_, _, .dict es _, _⟩ => decide (es.toList.map entR = tab.map some)
  | _ => false
theorem entB_ok {K : Fr} {w : World} {a : Addr} {tab : List (Str × Int)} (h : entB K a tab = true) (D : ∃ es n, KDict K w a es n) : ∃ es n, KDict K w a es n ∧ es.toList.map entI = tab.map some := by
  obtain ⟨es, n, D⟩ := D
  unfold entB at h
  rw [D.at_] at h
  exact ⟨es, n, D, of_decide_eq_true h⟩
theorem entRB_ok {K : Fr} {w : World} {a : Addr} {tab : List (Str × Addr)} (h : entRB K a tab = true) (D : ∃ es n, KDict K w a es n) : ∃ es n, KDict K w a es n ∧ es.toList.map entR = tab.map some := by
  obtain ⟨es, n, D⟩ := D
  unfold entRB at h
  rw [D.at_] at h
  exact ⟨es, n, D, of_decide_eq_true h⟩
/-! ### constants -/
def intB (K : Fr) (x : Str) (i : Int) : Bool := match PySem.W.nsIn K mainGlobals x with
  | some (some (.int j _)) => decide (j = i)
  | _ => false
def strB (K : Fr) (x z : Str) : Bool := match PySem.W.nsIn K mainGlobals x with
  | some (some (.str y _)) => decide (y = z)
  | _ => false
theorem intB_ok {K : Fr} {x : Str} {i : Int} (h : intB K x i = true) : ∃ t, PySem.W.nsIn K mainGlobals x = some (some (.int i t)) := by
  unfold intB at h
  split at h
  · rename_i j t e
    have ej : j = i := of_decide_eq_true h
    subst ej
    exact ⟨t, e⟩
  · cases h
theorem strB_ok {K : Fr} {x z : Str} (h : strB K x z = true) : ∃ t, PySem.W.nsIn K mainGlobals x = some (some (.str z t)) := by
  unfold strB at h
  split at h
  · rename_i j t e
    have ej : j = z := of_decide_eq_true h
    subst ej
    exact ⟨t, e⟩
  · cases h
def clsIntB (K : Fr) (C : Addr) (f : Str) (i : Int) : Bool := match PySem.W.findCls K (.ref C) (.type "type") f with
  | some (.val (.int j _)) => decide (j = i)
  | _ => false
theorem clsIntB_ok {K : Fr} {C : Addr} {f : Str} {i : Int} (h : clsIntB K C f i = true) : ∃ t, PySem.W.findCls K (.ref C) (.type "type") f = some (.val (.int i t)) := by
  unfold clsIntB at h
  split at h
  · rename_i j t e
    have ej : j = i := of_decide_eq_true h
    subst ej
    exact ⟨t, e⟩
  · cases h
/-! ### what is looked at -/
/-- the objects that the named ones reach in n steps -/
def lev (g : Addr → Option Obj) : Nat → List Addr → List Addr
  | 0, l => l
  | n + 1, l => l ++ lev g n (l.flatMap fun a => match g a with
    | some o => He.refsD o
    | none => [])
def nm0 (g : Addr → Option Obj) (xs : List Str) : List Addr := xs.map fun x => He.ga (He.frG g [mainGlobals]) x
/-- an empty table of code objects -/
def isTab : Option Obj → Bool
  | some ⟨.none, none, .fields vs, sl⟩ => vs.isEmpty && sl.isEmpty
  | _ => false
theorem isTab_ok {o : Option Obj} (h : isTab o = true) : o = some { cls := .none, data := .fields #[] } := by
  unfold isTab at h
  split at h
  · rename_i vs sl
    obtain ⟨h1, h2⟩ := He.ba h
    have e1 : vs = #[] := Array.isEmpty_iff.mp h1
    have e2 : sl = #[] := Array.isEmpty_iff.mp h2
    subst e1 e2
    rfl
  · cases h
def frX (g : Addr → Option Obj) (xs : List Str) (n : Nat) : Fr := He.frG g ((mainGlobals :: cStatics :: lev g n (nm0 g xs)).filter fun a => !isTab (g a))
/-- a def's code object and its table -/
def codeP (K : Fr) (f : Addr) : Option (Addr × Addr) := match K.lookup f with
  | some ⟨_, _, .func fd, _⟩ => (match fd.code with
    | .ref c => (match K.lookup c with
      | some ⟨_, _, .fields vs, _⟩ => (match (vs[11]? : Option Value) with
        | some (.ref P) => some (c, P)
        | _ => none)
      | _ => none)
    | _ => none)
  | _ => none
theorem codeP_eq {K : Fr} {f c P : Addr} {oc : Value} {od : Option Addr} {fd : FuncData} {osl : Array (Option Value)} (h : codeP K f = some (c, P)) (l : K.lookup f = some ⟨oc, od, .func fd, osl⟩) : fd.code = .ref c := by
  unfold codeP at h
  rw [l] at h
  dsimp only at h
  split at h
  · rename_i c2 e
    split at h
    · split at h
      · cases h
        exact e
      · cases h
    · cases h
  · cases h
def codOk (g : Addr → Option Obj) (K : Fr) (d : Fr → Addr) : Bool := match codeP K (d K) with
  | some (c, P) => PySem.W.codeHdIn K c P && (isTab (g P) && (K.lookup P).isNone)
  | none => false
theorem codOk_ok {g : Addr → Option Obj} {K : Fr} {d : Fr → Addr} (h : codOk g K d = true) : ∃ c P, codeP K (d K) = some (c, P) ∧ PySem.W.codeHdIn K c P = true ∧ g P = some { cls := .none, data := .fields #[] } ∧ K.lookup P = none := by
  unfold codOk at h
  split at h
  · rename_i c P e
    obtain ⟨h1, h2⟩ := He.ba h
    obtain ⟨h3, h4⟩ := He.ba h2
    exact ⟨c, P, e, h1, isTab_ok h3, Option.isNone_iff_eq_none.mp h4⟩
  · cases h
theorem codOk_keep {h h' : Heap} {K : Fr} {d : Fr → Addr} (k : ∀ b o, h.get? b = some o → h'.get? b = some o) (x : codOk h.get? K d = true) : codOk h'.get? K d = true := by
  obtain ⟨c, P, e1, e2, e3, e4⟩ := codOk_ok x
  unfold codOk
  rw [e1]
  dsimp only
  rw [e2, k _ _ e3, e4]
  rfl
abbrev Al : Type := List He.FnV × List He.FnW × List (Option (List (Option (Str × Int)))) × Bool
abbrev AlT : Type := Al × Bool
/-- all that a law's end asks -/
structure Ask where
  fns : List DefX
  ini : List He.DefD
  tabs : List He.Tab
  fss : List (List (Fr → Bool))
  cods : List (Fr → Addr)
def Ask.obs (A : Ask) (K : Fr) : Al := (A.fns.map fun d => fnAt K (d.adr K), A.ini.map fun d => He.fnW K d.at_, A.tabs.map fun t => He.dicW K (t.1 K), (A.fns.all fun d => codeB K d) && ((A.ini.all fun d => d.ok K) && A.fss.all fun fs => fs.all fun f => f K))
def Ask.val (A : Ask) (w : World) : Al := (A.fns.map DefX.val, A.ini.map He.DefD.val, A.tabs.map fun t => some (He.keysIn w.params t.2), true)
def Ask.says (A : Ask) (w : World) (K : Fr) : Prop := A.obs K = A.val w
def Ask.hook (A : Ask) (xs : List Str) (n : Nat) : PySem.W.Hook where
  α := AlT
  obs := fun s => (A.obs (frX s.heap.get? xs n), A.cods.all (codOk s.heap.get? (frX s.heap.get? xs n)))
  val := fun w => (A.val w, true)
  says := fun w h => ∃ K : Fr, K.In h ∧ A.says w K ∧ ∀ d ∈ A.cods, codOk h.get? K d = true
  of := fun _ _ e => ⟨_, He.frG_in, congrArg Prod.fst e, List.all_eq_true.mp (congrArg Prod.snd e)⟩
  keeps := fun _ _ _ ⟨K, hK, c, x⟩ k => ⟨K, PySem.W.Frag.In.keeps hK k, c, fun d hd => codOk_keep k (x d hd)⟩
def Ask.ob (A : Ask) (xs : List Str) (n : Nat) (s : PySem.W.SharedT) : AlT := (A.obs (frX (HandSHeadRun.getT s) xs n), A.cods.all (codOk (HandSHeadRun.getT s) (frX (HandSHeadRun.getT s) xs n)))
theorem Ask.ob_eq (A : Ask) (xs : List Str) (n : Nat) (s : PySem.W.SharedT) : A.ob xs n s = (A.hook xs n).obs s.abs := by
  have e : HandSHeadRun.getT s = s.abs.heap.get? := funext (HandSHeadRun.getT_eq s)
  show (A.obs (frX (HandSHeadRun.getT s) xs n), A.cods.all (codOk (HandSHeadRun.getT s) (frX (HandSHeadRun.getT s) xs n))) = (A.obs (frX s.abs.heap.get? xs n), A.cods.all (codOk s.abs.heap.get? (frX s.abs.heap.get? xs n)))
  rw [e]
theorem run_of {α β : Type} {o : Option α} {l : α → Bool} {se : α → β} {ob : α → AlT} {good : β} {v : AlT} (h0 : o.map (fun s => (l s, se s)) = some (true, good)) (h1 : o.map (fun s => (ob s).1.1) = some v.1.1) (h2 : o.map (fun s => (ob s).1.2.1) = some v.1.2.1)
    (h3 : o.map (fun s => (ob s).1.2.2.1) = some v.1.2.2.1) (h4 : o.map (fun s => ((ob s).1.2.2.2, (ob s).2)) = some (v.1.2.2.2, v.2)) : o.map (fun s => (l s, se s, ob s)) = some (true, good, v) := by
  cases o with
  | none => cases h0
  | some s =>
    have e0 := Option.some.inj h0
    have e1 : (ob s).1.1 = v.1.1 := Option.some.inj h1
    have e2 : (ob s).1.2.1 = v.1.2.1 := Option.some.inj h2
    have e3 : (ob s).1.2.2.1 = v.1.2.2.1 := Option.some.inj h3
    have e4 : ((ob s).1.2.2.2, (ob s).2) = (v.1.2.2.2, v.2) := Option.some.inj h4
    have e6 : (ob s).1.2.2.2 = v.1.2.2.2 := (Prod.mk.inj e4).1
    have e7 : (ob s).2 = v.2 := (Prod.mk.inj e4).2
    have e5 : ob s = v := Prod.ext (Prod.ext e1 (Prod.ext e2 (Prod.ext e3 e6))) e7
    show some (l s, se s, ob s) = _
    rw [e5]
    exact congrArg (fun z : Bool × β => some (z.1, z.2, v)) e0
section
variable {A : Ask} {w : World} {K : Fr}
theorem Ask.says.bool (c : A.says w K) : ((A.fns.all fun d => codeB K d) && ((A.ini.all fun d => d.ok K) && A.fss.all fun fs => fs.all fun f => f K)) = true := congrArg (fun z : Al => z.2.2.2) c
theorem Ask.says.fact (c : A.says w K) (i j : Nat) {fs : List (Fr → Bool)} {f : Fr → Bool} (h1 : A.fss[i]? = some fs) (h2 : fs[j]? = some f) : f K = true := by
  have h := (He.ba (He.ba c.bool).2).2
  exact List.all_eq_true.mp (List.all_eq_true.mp h fs (List.mem_of_getElem? h1)) f (List.mem_of_getElem? h2)
theorem Ask.says.def_ (c : A.says w K) (i : Nat) {d : DefX} (h : A.fns[i]? = some d) :
    ∃ oc od osl kV doc pm an cdv ct, K.lookup (d.adr K) = some ⟨oc, od, .func (PySem.W.fnOf d.name d.qual d.params d.body d.scope .none kV doc pm an cdv ct), osl⟩ ∧ PySem.W.codeIn K cdv d.qual = true := by
  have h1 := (He.ba c.bool).1
  have e : A.fns.map (fun d => fnAt K (d.adr K)) = A.fns.map DefX.val := congrArg (fun z : Al => z.1) c
  have e2 : (A.fns.map fun d => fnAt K (d.adr K))[i]? = (A.fns.map DefX.val)[i]? := by rw [e]
  rw [List.getElem?_map, List.getElem?_map, h] at e2
  exact fn_ok (Option.some.inj e2) (List.all_eq_true.mp h1 d (List.mem_of_getElem? h))
theorem Ask.says.init (c : A.says w K) (i : Nat) {d : He.DefD} (h : A.ini[i]? = some d) : ∃ fd, FunD K d.name d.qual d.params d.body d.scope (d.dvs K) (d.kws K) (He.fAd K d.at_) fd := by
  have h1 := (He.ba (He.ba c.bool).2).1
  have e : A.ini.map (fun d => He.fnW K d.at_) = A.ini.map He.DefD.val := congrArg (fun z : Al => z.2.1) c
  have e2 : (A.ini.map fun d => He.fnW K d.at_)[i]? = (A.ini.map He.DefD.val)[i]? := by rw [e]
  rw [List.getElem?_map, List.getElem?_map, h] at e2
  exact He.DefD.funD (Option.some.inj e2) (List.all_eq_true.mp h1 d (List.mem_of_getElem? h))
theorem Ask.says.tab (c : A.says w K) (i : Nat) {t : He.Tab} (h : A.tabs[i]? = some t) : ∃ es n, KDict K w (t.1 K) es n := by
  have e : A.tabs.map (fun t => He.dicW K (t.1 K)) = A.tabs.map fun t => some (He.keysIn w.params t.2) := congrArg (fun z : Al => z.2.2.1) c
  have e2 : (A.tabs.map fun t => He.dicW K (t.1 K))[i]? = (A.tabs.map fun t => some (He.keysIn w.params t.2))[i]? := by rw [e]
  rw [List.getElem?_map, List.getElem?_map, h] at e2
  exact He.dicW_ok (Option.some.inj e2)
end
end HX

set_option Elab.async false
set_option linter.all false
set_option maxRecDepth 100000
set_option maxHeartbeats 4000000
namespace Q
open PySem PySem.Spec PyProof.Rows
noncomputable section
def topS (i : Nat) : Stmt := PySem.Challenge.pw_quietsides_k13_whole_least_sizes.main.body.getD i (.Pass ⟨0, 0, 0, 0⟩)
def clsBody : Stmt → List Stmt
  | .ClassDef _ _ _ body _ _ _ _ _ _ _ => body
  | _ => []
def mthS (i j : Nat) : Stmt := (clsBody (topS i)).getD j (.Pass ⟨0, 0, 0, 0⟩)
abbrev s_law_draw : Stmt := topS 5
abbrev s_law_cases : Stmt := topS 8
abbrev s_law_of : Stmt := topS 6
abbrev s_law_rows : Stmt := topS 10
abbrev s_law_case : Stmt := topS 9
abbrev s_least_sizes : Stmt := topS 2
abbrev s_law_same : Stmt := topS 7
abbrev s_case_of : Stmt := topS 1
abbrev s_law_feed : Stmt := topS 4
abbrev s_law : Stmt := topS 11
end
end Q

set_option Elab.async false
set_option linter.all false
set_option maxRecDepth 100000
set_option maxHeartbeats 0
namespace Q
open L2 PyProof.Rows PySem PySem.Spec
def askF0 : List HX.DefX := [
  ⟨fun K => (He.ga K "_law_draw"), "_law_draw", "_law_draw", defArgs s_law_draw, defBody s_law_draw, defScope s_law_draw⟩,
  ⟨fun K => (He.ga K "_law_cases"), "_law_cases", "_law_cases", defArgs s_law_cases, defBody s_law_cases, defScope s_law_cases⟩,
  ⟨fun K => (He.ga K "_law_of"), "_law_of", "_law_of", defArgs s_law_of, defBody s_law_of, defScope s_law_of⟩,
  ⟨fun K => (He.ga K "_law_rows"), "_law_rows", "_law_rows", defArgs s_law_rows, defBody s_law_rows, defScope s_law_rows⟩,
  ⟨fun K => (He.ga K "_law_case"), "_law_case", "_law_case", defArgs s_law_case, defBody s_law_case, defScope s_law_case⟩,
  ⟨fun K => (He.ga K "least_sizes"), "least_sizes", "least_sizes", defArgs s_least_sizes, defBody s_least_sizes, defScope s_least_sizes⟩,
  ⟨fun K => (He.ga K "_law_same"), "_law_same", "_law_same", defArgs s_law_same, defBody s_law_same, defScope s_law_same⟩,
  ⟨fun K => (He.ga K "case_of"), "case_of", "case_of", defArgs s_case_of, defBody s_case_of, defScope s_case_of⟩,
  ⟨fun K => (He.ga K "_law_feed"), "_law_feed", "_law_feed", defArgs s_law_feed, defBody s_law_feed, defScope s_law_feed⟩,
  ⟨fun K => (He.ga K "law"), "law", "law", defArgs s_law, defBody s_law, defScope s_law⟩]
def askI0 : List He.DefD := [
  ]
def askT0 : List He.Tab := [
  ]
def askB0 : List (HX.Fr → Bool) := [
  fun K => He.eqO (PySem.W.nsIn K mainGlobals "_law_draw") (some (some (.ref (He.ga K "_law_draw")))),
  fun K => PySem.W.keepIn K (.ref (He.ga K "_law_draw")),
  fun K => He.eqO (PySem.W.nsIn K mainGlobals "_law_cases") (some (some (.ref (He.ga K "_law_cases")))),
  fun K => PySem.W.keepIn K (.ref (He.ga K "_law_cases")),
  fun K => He.eqO (PySem.W.nsIn K mainGlobals "_law_of") (some (some (.ref (He.ga K "_law_of")))),
  fun K => PySem.W.keepIn K (.ref (He.ga K "_law_of")),
  fun K => He.eqO (PySem.W.nsIn K mainGlobals "_law_rows") (some (some (.ref (He.ga K "_law_rows")))),
  fun K => PySem.W.keepIn K (.ref (He.ga K "_law_rows")),
  fun K => He.eqO (PySem.W.nsIn K mainGlobals "_law_case") (some (some (.ref (He.ga K "_law_case")))),
  fun K => PySem.W.keepIn K (.ref (He.ga K "_law_case")),
  fun K => He.eqO (PySem.W.nsIn K mainGlobals "least_sizes") (some (some (.ref (He.ga K "least_sizes")))),
  fun K => PySem.W.keepIn K (.ref (He.ga K "least_sizes")),
  fun K => He.eqO (PySem.W.nsIn K mainGlobals "_law_same") (some (some (.ref (He.ga K "_law_same")))),
  fun K => PySem.W.keepIn K (.ref (He.ga K "_law_same")),
  fun K => He.eqO (PySem.W.nsIn K mainGlobals "case_of") (some (some (.ref (He.ga K "case_of")))),
  fun K => PySem.W.keepIn K (.ref (He.ga K "case_of")),
  fun K => He.eqO (PySem.W.nsIn K mainGlobals "_law_feed") (some (some (.ref (He.ga K "_law_feed")))),
  fun K => PySem.W.keepIn K (.ref (He.ga K "_law_feed")),
  fun K => He.eqO (PySem.W.nsIn K mainGlobals "law") (some (some (.ref (He.ga K "law")))),
  fun K => PySem.W.keepIn K (.ref (He.ga K "law"))]
def askB1 : List (HX.Fr → Bool) := [
  fun K => He.eqO (PySem.W.nsIn K mainGlobals "all") (some none),
  fun K => He.eqO (PySem.W.nsIn K mainGlobals "dict") (some none),
  fun K => He.eqO (PySem.W.nsIn K mainGlobals "enumerate") (some none),
  fun K => He.eqO (PySem.W.nsIn K mainGlobals "int") (some none),
  fun K => He.eqO (PySem.W.nsIn K mainGlobals "isinstance") (some none),
  fun K => He.eqO (PySem.W.nsIn K mainGlobals "len") (some none),
  fun K => He.eqO (PySem.W.nsIn K mainGlobals "list") (some none),
  fun K => He.eqO (PySem.W.nsIn K mainGlobals "max") (some none),
  fun K => He.eqO (PySem.W.nsIn K mainGlobals "range") (some none),
  fun K => He.eqO (PySem.W.nsIn K mainGlobals "repr") (some none),
  fun K => He.eqO (PySem.W.nsIn K mainGlobals "sorted") (some none),
  fun K => He.eqO (PySem.W.nsIn K mainGlobals "sum") (some none),
  fun K => He.eqO (PySem.W.nsIn K mainGlobals "tuple") (some none)]
def ask : HX.Ask := ⟨askF0, askI0, askT0, [askB0, askB1], [fun K => He.ga K "least_sizes"]⟩
def askN0 : List Str := [
  "_law_case",
  "_law_cases",
  "_law_draw",
  "_law_feed",
  "_law_of",
  "_law_rows",
  "_law_same",
  "case_of",
  "law",
  "least_sizes"]
def askL0 : List Str := [
  "case_of",
  "least_sizes",
  "_law_feed",
  "_law_draw",
  "_law_of",
  "_law_same",
  "_law_cases",
  "_law_case",
  "_law_rows"]
def askNs : List Str := askN0
def loose : List Str := askL0
abbrev R : PySem.W.OpenRow := PySem.W.OpenLaw.row PySem.Challenge.rw_quietsides_k13_whole_least_sizes
abbrev hk : PySem.W.Hook := ask.hook askNs 4
def ob (s : PySem.W.SharedT) : HX.AlT := ask.ob askNs 4 s
theorem ob_eq (s : PySem.W.SharedT) : ob s = hk.obs s.abs := ask.ob_eq askNs 4 s
open HandSHeadRun PySem.W in
theorem ra0 (w : World) (os : OsState) : ((endF (stepQ (denQ tabQ) R.prog (w.withFollow "special-get-raises" false)) 8000 R.prog (w.withFollow "special-get-raises" false) os).map fun s => (looksF R.prog (boot_heap (w.withFollow "special-get-raises" false).params) s.abs, seenQ (view R.prog [11]) loose (importedModules R.prog.main.body) (fun s => xlAt (view R.prog [11]) [] s && recOk R.toRowW.records s) s.abs)) = some ((true, openGood (view R.prog [11]) loose)) := by kernel_rfl
open HandSHeadRun PySem.W in
theorem ra1 (w : World) (os : OsState) : ((endF (stepQ (denQ tabQ) R.prog (w.withFollow "special-get-raises" false)) 8000 R.prog (w.withFollow "special-get-raises" false) os).map fun s => (ob s).1.1) = some ((ask.val (w.withFollow "special-get-raises" false)).1) := by kernel_rfl
open HandSHeadRun PySem.W in
theorem ra2 (w : World) (os : OsState) : ((endF (stepQ (denQ tabQ) R.prog (w.withFollow "special-get-raises" false)) 8000 R.prog (w.withFollow "special-get-raises" false) os).map fun s => (ob s).1.2.1) = some ((ask.val (w.withFollow "special-get-raises" false)).2.1) := by kernel_rfl
open HandSHeadRun PySem.W in
theorem ra3 (w : World) (os : OsState) : ((endF (stepQ (denQ tabQ) R.prog (w.withFollow "special-get-raises" false)) 8000 R.prog (w.withFollow "special-get-raises" false) os).map fun s => (ob s).1.2.2.1) = some ((ask.val (w.withFollow "special-get-raises" false)).2.2.1) := by kernel_rfl
open HandSHeadRun PySem.W in
theorem ra4 (w : World) (os : OsState) : ((endF (stepQ (denQ tabQ) R.prog (w.withFollow "special-get-raises" false)) 8000 R.prog (w.withFollow "special-get-raises" false) os).map fun s => ((ob s).1.2.2.2, (ob s).2)) = some (((ask.val (w.withFollow "special-get-raises" false)).2.2.2, true)) := by kernel_rfl
open HandSHeadRun PySem.W in
theorem rb0 (w : World) (os : OsState) : ((endF (stepQ (denQ tabQ) R.prog (w.withFollow "special-get-raises" true)) 8000 R.prog (w.withFollow "special-get-raises" true) os).map fun s => (looksF R.prog (boot_heap (w.withFollow "special-get-raises" true).params) s.abs, seenQ (view R.prog [11]) loose (importedModules R.prog.main.body) (fun s => xlAt (view R.prog [11]) [] s && recOk R.toRowW.records s) s.abs)) = some ((true, openGood (view R.prog [11]) loose)) := by kernel_rfl
open HandSHeadRun PySem.W in
theorem rb1 (w : World) (os : OsState) : ((endF (stepQ (denQ tabQ) R.prog (w.withFollow "special-get-raises" true)) 8000 R.prog (w.withFollow "special-get-raises" true) os).map fun s => (ob s).1.1) = some ((ask.val (w.withFollow "special-get-raises" true)).1) := by kernel_rfl
open HandSHeadRun PySem.W in
theorem rb2 (w : World) (os : OsState) : ((endF (stepQ (denQ tabQ) R.prog (w.withFollow "special-get-raises" true)) 8000 R.prog (w.withFollow "special-get-raises" true) os).map fun s => (ob s).1.2.1) = some ((ask.val (w.withFollow "special-get-raises" true)).2.1) := by kernel_rfl
open HandSHeadRun PySem.W in
theorem rb3 (w : World) (os : OsState) : ((endF (stepQ (denQ tabQ) R.prog (w.withFollow "special-get-raises" true)) 8000 R.prog (w.withFollow "special-get-raises" true) os).map fun s => (ob s).1.2.2.1) = some ((ask.val (w.withFollow "special-get-raises" true)).2.2.1) := by kernel_rfl
open HandSHeadRun PySem.W in
theorem rb4 (w : World) (os : OsState) : ((endF (stepQ (denQ tabQ) R.prog (w.withFollow "special-get-raises" true)) 8000 R.prog (w.withFollow "special-get-raises" true) os).map fun s => ((ob s).1.2.2.2, (ob s).2)) = some (((ask.val (w.withFollow "special-get-raises" true)).2.2.2, true)) := by kernel_rfl
theorem run (w : World) : HandSHeadRun.RunEq R (PySem.W.view R.prog [11]) hk ob 8000 loose w :=
  PySem.W.byRow2 "special-get-raises" (P := fun w => HandSHeadRun.RunEq R (PySem.W.view R.prog [11]) hk ob 8000 loose w) (fun w os => HX.run_of (ra0 w os) (ra1 w os) (ra2 w os) (ra3 w os) (ra4 w os)) (fun w os => HX.run_of (rb0 w os) (rb1 w os) (rb2 w os) (rb3 w os) (rb4 w os)) w
end Q

set_option Elab.async false
set_option linter.all false
set_option maxRecDepth 100000
set_option maxHeartbeats 2000000
/-! The data layer: values as data, what an expression, a statement, a def computes of them. -/
namespace DL
open PySem PySem.Spec PyProof.Rows L2

/-! ### data -/
inductive D where
  | non | bl (b : Bool) | int (i : Int) | str (x : Str) | feed | opq (v : V)
  | tup (xs : List D) | lst (xs : List D) | dic (kvs : List (Key × D))
  /-- a list of ints that is read alone (a law's script) -/
  | scr (ns : List Int)
  /-- an instance of the module's class of that name, with its attributes; it does not change any more -/
  | ins (cls : Str) (fs : List (Str × D))
  /-- a tuple that is known to have no dict of its own -/
  | ptup (xs : List D)

/-- the state of a law's feed -/
structure FS where
  cells : List Int
  at_ : Int
  rest : Int
  cnt : Int
  stir : Int

/-- the numbers of a feed's state are in their bounds -/
def FS.Ok (s : FS) : Prop := 0 ≤ s.stir ∧ s.stir < 2147483477 ∧ 0 ≤ s.at_ ∧ 0 ≤ s.rest
/-- where a law's feed stands: its list, the list of its cells, the cells -/
structure FA where
  a : Addr
  c : Addr
  cells : List Int
  /-- the tables of code objects of defs that make lambdas -/
  tabs : List (Addr × Str)
/-- not the feed, no such table -/
def Nfa (fa : Option FA) (b : Addr) : Prop := ∀ φ, fa = some φ → φ.a ≠ b ∧ ∀ q, q ∈ φ.tabs → q.1 ≠ b

/-- an exception of an own class, by the class's name, with its fields -/
structure Exc where
  cls : Str
  flds : List (Str × D)

inductive Res (α : Type) where
  | bad
  | ok (a : α) (s : FS)
  | err (e : Exc) (s : FS)

abbrev M (α : Type) := FS → Res α
def Res.bnd {α β : Type} : Res α → (α → FS → Res β) → Res β
  | .bad, _ => .bad
  | .ok a s, f => f a s
  | .err e s, _ => .err e s
def M.bind {α β : Type} (m : M α) (f : α → M β) : M β := fun s => (m s).bnd f
def M.pure {α : Type} (a : α) : M α := fun s => .ok a s
def M.bad {α : Type} : M α := fun _ => .bad
instance : Monad M where
  pure := M.pure
  bind := M.bind
/-- an Option as a computation that touches nothing -/
def M.lift {α : Type} : Option α → M α
  | some a => M.pure a
  | none => M.bad

/-! ### how data stands in a heap -/

mutual
inductive Rep (K : PySem.W.Frag) (fa : Option FA) (F : Hp) : D → V → Prop
  | non : Rep K fa F .non .non
  | bl (b : Bool) : Rep K fa F (.bl b) (.bl b)
  | int (i : Int) : Rep K fa F (.int i) (.int i)
  | str (x : Str) : Rep K fa F (.str x) (.str x)
  | feed (φ : FA) : fa = some φ → Rep K fa F .feed (.ref φ.a)
  | opq (v : V) : Rep K fa F (.opq v) v
  | scr {a : Addr} {ns : List Int} : SqL K F a (ns.map V.int) → Rep K fa F (.scr ns) (.ref a)
  | tup {a : Addr} {xs : List D} {vs : List V} : SqT K F a vs → RepL K fa F xs vs → Rep K fa F (.tup xs) (.ref a)
  | lst {a : Addr} {xs : List D} {vs : List V} : F a = some (.lst vs) → RepL K fa F xs vs → Rep K fa F (.lst xs) (.ref a)
  | ptup {a : Addr} {o : Obj} {xs : List D} {vs : List V} : F a = some (.frz o (.tup vs)) → o.dict = none → RepL K fa F xs vs → Rep K fa F (.ptup xs) (.ref a)
  | dic {a : Addr} {xs : List (Key × D)} {vs : List (Key × V)} : Rd F a (.dK vs) → RepK K fa F xs vs → Rep K fa F (.dic xs) (.ref a)
  | ins {a C dx : Addr} {cls : Str} {xs : List (Str × D)} {vs : List (Str × V)} : F a = some (.ins C dx vs) → PySem.W.nsIn K mainGlobals cls = some (some (.ref C)) → RepF K fa F xs vs → Rep K fa F (.ins cls xs) (.ref a)
inductive RepF (K : PySem.W.Frag) (fa : Option FA) (F : Hp) : List (Str × D) → List (Str × V) → Prop
  | nil : RepF K fa F [] []
  | cons {k : Str} {d : D} {v : V} {ds : List (Str × D)} {vs : List (Str × V)} : Rep K fa F d v → RepF K fa F ds vs → RepF K fa F ((k, d) :: ds) ((k, v) :: vs)
inductive RepL (K : PySem.W.Frag) (fa : Option FA) (F : Hp) : List D → List V → Prop
  | nil : RepL K fa F [] []
  | cons {d : D} {v : V} {ds : List D} {vs : List V} : Rep K fa F d v → RepL K fa F ds vs → RepL K fa F (d :: ds) (v :: vs)
inductive RepK (K : PySem.W.Frag) (fa : Option FA) (F : Hp) : List (Key × D) → List (Key × V) → Prop
  | nil : RepK K fa F [] []
  | cons {k : Key} {d : D} {v : V} {ds : List (Key × D)} {vs : List (Key × V)} : Rep K fa F d v → RepK K fa F ds vs → RepK K fa F ((k, d) :: ds) ((k, v) :: vs)
end

section
variable {K : PySem.W.Frag} {fa : Option FA} {F F' F'' H H' H'' : Hp}
theorem same_seqT {a : Addr} {xs : List V} (e : Same F F') (h : SqT K F a xs) : SqT K F' a xs := by
  rcases h with (h | ⟨o, h⟩) | h
  · exact .inl (.inl (e _ _ h))
  · exact .inl (.inr ⟨o, e _ _ h⟩)
  · exact .inr h
theorem same_rd {a : Addr} {u : HO} (e : Same F F') (h : Rd F a u) : Rd F' a u := by
  rcases h with h | ⟨o, h⟩
  · exact .inl (e _ _ h)
  · exact .inr ⟨o, e _ _ h⟩
mutual
theorem Rep.mono (e : Same F F') : ∀ {d : D} {v : V}, Rep K fa F d v → Rep K fa F' d v
  | _, _, .non => .non
  | _, _, .bl b => .bl b
  | _, _, .int i => .int i
  | _, _, .str x => .str x
  | _, _, .feed a h => .feed a h
  | _, _, .opq v => .opq v
  | _, _, .scr h => .scr (Same.seq e h)
  | _, _, .tup h r => .tup (same_seqT e h) (RepL.mono e r)
  | _, _, .ptup h n r => .ptup (e _ _ h) n (RepL.mono e r)
  | _, _, .lst h r => .lst (e _ _ h) (RepL.mono e r)
  | _, _, .dic h r => .dic (same_rd e h) (RepK.mono e r)
  | _, _, .ins h c r => .ins (e _ _ h) c (RepF.mono e r)
theorem RepF.mono (e : Same F F') : ∀ {ds : List (Str × D)} {vs : List (Str × V)}, RepF K fa F ds vs → RepF K fa F' ds vs
  | _, _, .nil => .nil
  | _, _, .cons r t => .cons (Rep.mono e r) (RepF.mono e t)
theorem RepL.mono (e : Same F F') : ∀ {ds : List D} {vs : List V}, RepL K fa F ds vs → RepL K fa F' ds vs
  | _, _, .nil => .nil
  | _, _, .cons r t => .cons (Rep.mono e r) (RepL.mono e t)
theorem RepK.mono (e : Same F F') : ∀ {ds : List (Key × D)} {vs : List (Key × V)}, RepK K fa F ds vs → RepK K fa F' ds vs
  | _, _, .nil => .nil
  | _, _, .cons r t => .cons (Rep.mono e r) (RepK.mono e t)
end
theorem RepL.length : ∀ {ds : List D} {vs : List V}, RepL K fa F ds vs → ds.length = vs.length
  | _, _, .nil => rfl
  | _, _, .cons _ t => congrArg (· + 1) (RepL.length t)
theorem RepL.get : ∀ {ds : List D} {vs : List V} {i : Nat} {v : V}, RepL K fa F ds vs → vs[i]? = some v → ∃ d, ds[i]? = some d ∧ Rep K fa F d v
  | _, _, i, _, .nil, h => by simp at h
  | _, _, 0, _, .cons r _, h => by simp at h; subst h; exact ⟨_, rfl, r⟩
  | _, _, i + 1, v, .cons _ t, h => by
    obtain ⟨d, e, r⟩ := RepL.get (i := i) (v := v) t (by simpa using h)
    exact ⟨d, by simpa using e, r⟩
theorem RepL.get' : ∀ {ds : List D} {vs : List V} {i : Nat} {d : D}, RepL K fa F ds vs → ds[i]? = some d → ∃ v, vs[i]? = some v ∧ Rep K fa F d v
  | _, _, i, _, .nil, h => by simp at h
  | _, _, 0, _, .cons r _, h => by simp at h; subst h; exact ⟨_, rfl, r⟩
  | _, _, i + 1, v, .cons _ t, h => by
    obtain ⟨d, e, r⟩ := RepL.get' (i := i) (d := v) t (by simpa using h)
    exact ⟨d, by simpa using e, r⟩
theorem RepL.append : ∀ {ds es : List D} {vs ws : List V}, RepL K fa F ds vs → RepL K fa F es ws → RepL K fa F (ds ++ es) (vs ++ ws)
  | _, _, _, _, .nil, s => s
  | _, _, _, _, .cons r t, s => .cons r (RepL.append t s)
theorem RepL.take : ∀ {ds : List D} {vs : List V} (n : Nat), RepL K fa F ds vs → RepL K fa F (ds.take n) (vs.take n)
  | _, _, 0, _ => .nil
  | _, _, _ + 1, .nil => .nil
  | _, _, n + 1, .cons r t => .cons r (RepL.take n t)
theorem RepL.drop : ∀ {ds : List D} {vs : List V} (n : Nat), RepL K fa F ds vs → RepL K fa F (ds.drop n) (vs.drop n)
  | _, _, 0, r => r
  | _, _, _ + 1, .nil => .nil
  | _, _, n + 1, .cons _ t => RepL.drop n t
theorem RepL.ints : ∀ (ns : List Int), RepL K fa F (ns.map D.int) (ns.map V.int)
  | [] => .nil
  | n :: ns => .cons (.int n) (RepL.ints ns)
theorem RepL.of_ints : ∀ {ns : List Int} {vs : List V}, RepL K fa F (ns.map D.int) vs → vs = ns.map V.int
  | [], _, .nil => rfl
  | n :: ns, _, .cons r t => by
    cases r
    rw [RepL.of_ints t]
    rfl
theorem RepL.of_strs : ∀ {ns : List Str} {vs : List V}, RepL K fa F (ns.map D.str) vs → vs = ns.map V.str
  | [], _, .nil => rfl
  | n :: ns, _, .cons r t => by
    cases r
    rw [RepL.of_strs t]
    rfl
theorem RepL.of_bls : ∀ {ns : List Bool} {vs : List V}, RepL K fa F (ns.map D.bl) vs → vs = ns.map V.bl
  | [], _, .nil => rfl
  | n :: ns, _, .cons r t => by
    cases r
    rw [RepL.of_bls t]
    rfl

/-! ### the state ahead of and behind an expression -/
/-- the tables stand in the heap, outside of what is frozen -/
def TabsOk (T : List (Addr × Str)) (F H : Hp) : Prop := (∀ q, q ∈ T → F q.1 = none) ∧ LamX.Tabs T H
theorem TabsOk.at_ {T : List (Addr × Str)} {F H : Hp} (h : TabsOk T F H) {q : Addr × Str} (hq : q ∈ T) : ∃ ps, H q.1 = some (.tbl ps) := by
  obtain ⟨ps, h1, _⟩ := h.2 q hq
  exact ⟨ps, h1⟩
theorem TabsOk.same {T : List (Addr × Str)} {F F' H H' : Hp} (h : TabsOk T F H) (hh : ∀ b o, H b = some o → H' b = some o) (fr : ∀ b, H b ≠ none → F' b = F b) : TabsOk T F' H' := by
  refine ⟨fun q hq => ?_, h.2.ext hh⟩
  obtain ⟨ps, e⟩ := h.at_ hq
  rw [fr q.1 (by rw [e]; simp)]
  exact h.1 q hq
/-- neither a table nor a code object -/
def NoTab (u : HO) : Prop := (∀ ps, u ≠ .tbl ps) ∧ ∀ c q, u ≠ LamX.CodeO c q
theorem TabsOk.upd {T : List (Addr × Str)} {F H : Hp} {p : Addr} {u u' : HO} (h : TabsOk T F H) (hp : H p = some u) (hu : NoTab u) : TabsOk T F (L2.upd H p u') := by
  refine ⟨h.1, fun q hq => ?_⟩
  obtain ⟨ps, h1, h2, h3⟩ := h.2 q hq
  have n1 : q.1 ≠ p := fun z => by rw [z, hp] at h1; exact hu.1 ps (Option.some.inj h1)
  refine ⟨ps, by rw [upd_ne n1]; exact h1, h2, fun pos cv e => ?_⟩
  obtain ⟨c, e1, e2⟩ := h3 pos cv e
  have n2 : c ≠ p := fun z => by rw [z, hp] at e2; exact hu.2 _ _ (Option.some.inj e2)
  exact ⟨c, e1, by rw [upd_ne n2]; exact e2⟩
theorem TabsOk.butOne {T : List (Addr × Str)} {F H H' : Hp} {p : Addr} {u : HO} (h : TabsOk T F H) (hp : H p = some u) (hu : NoTab u) (hh : ∀ b o, H b = some o → b ≠ p → H' b = some o) : TabsOk T F H' := by
  refine ⟨h.1, fun q hq => ?_⟩
  obtain ⟨ps, h1, h2, h3⟩ := h.2 q hq
  have n1 : q.1 ≠ p := fun z => by rw [z, hp] at h1; exact hu.1 ps (Option.some.inj h1)
  refine ⟨ps, hh _ _ h1 n1, h2, fun pos cv e => ?_⟩
  obtain ⟨c, e1, e2⟩ := h3 pos cv e
  have n2 : c ≠ p := fun z => by rw [z, hp] at e2; exact hu.2 _ _ (Option.some.inj e2)
  exact ⟨c, e1, hh _ _ e2 n2⟩
theorem TabsOk.updN {T : List (Addr × Str)} {F H : Hp} {p : Addr} {u' : HO} (h : TabsOk T F H) (hp : H p = none) : TabsOk T F (L2.upd H p u') :=
  h.same (fun b o e => by rw [upd_ne (ne_of_none e hp)]; exact e) fun _ _ => rfl
theorem noTab_lst (xs : List V) : NoTab (.lst xs) := ⟨fun ps z => (by cases z), fun c q z => by unfold LamX.CodeO at z; cases z⟩
theorem noTab_dK (xs : List (Key × V)) : NoTab (.dK xs) := ⟨fun ps z => (by cases z), fun c q z => by unfold LamX.CodeO at z; cases z⟩
theorem noTab_ins (C d : Addr) (xs : List (Str × V)) : NoTab (.ins C d xs) := ⟨fun ps z => (by cases z), fun c q z => by unfold LamX.CodeO at z; cases z⟩
def FeedOk (K : PySem.W.Frag) (fa : Option FA) (F H : Hp) (s : FS) : Prop :=
  ∀ φ, fa = some φ → F φ.a = none ∧ (s.cells = φ.cells ∧ s.Ok) ∧ (H φ.a = some (.lst [.ref φ.c, .int s.at_, .int s.rest, .int s.cnt, .int s.stir]) ∧ TabsOk φ.tabs F H) ∧ F φ.c = some (.lst (φ.cells.map V.int))

structure Ext (fa : Option FA) (F H F' H' : Hp) : Prop where
  ff : Same F F'
  fh : Same F' H'
  hh : ∀ b o, H b = some o → Nfa fa b → H' b = some o
  fr : ∀ b, H b ≠ none → F' b = F b
  al : ∀ b, H b ≠ none → H' b ≠ none
theorem Ext.refl (h : Same F H) : Ext fa F H F H := ⟨Same.refl _, h, fun _ _ e _ => e, fun _ _ => rfl, fun _ e => e⟩
theorem Ext.trans (a : Ext fa F H F' H') (b : Ext fa F' H' F'' H'') : Ext fa F H F'' H'' :=
  ⟨a.ff.trans b.ff, b.fh, fun c o e n => b.hh c o (a.hh c o e n) n, fun c e => (b.fr c (a.al c e)).trans (a.fr c e), fun c e => b.al c (a.al c e)⟩
/-- a new object is laid -/
theorem Ext.new {p : Addr} {o : HO} (h : Same F H) (hp : H p = none) : Ext fa F H (upd F p o) (upd H p o) := by
  have fp : F p = none := h.free hp
  refine ⟨fun b u e => ?_, fun b u e => ?_, fun b u e _ => ?_, fun b e => ?_, fun b e => ?_⟩
  · rw [upd_ne (ne_of_none e fp)]; exact e
  · by_cases hb : b = p
    · subst hb; rw [upd_same] at e ⊢; exact e
    · rw [upd_ne hb] at e ⊢; exact h b u e
  · rw [upd_ne (ne_of_none e hp)]; exact e
  · have : b ≠ p := fun z => e (z ▸ hp)
    rw [upd_ne this]
  · have : b ≠ p := fun z => e (z ▸ hp)
    rw [upd_ne this]; exact e
theorem FeedOk.ext_same {s : FS} (x : FeedOk K fa F H s) (ff : Same F F') (hh : ∀ b o, H b = some o → H' b = some o) (fr : ∀ b, H b ≠ none → F' b = F b) : FeedOk K fa F' H' s := fun φ e => by
  obtain ⟨h1, h0, ⟨h2, ht⟩, h3⟩ := x φ e
  exact ⟨(fr φ.a (by rw [h2]; simp)).trans h1, h0, ⟨hh _ _ h2, ht.same hh fr⟩, ff _ _ h3⟩
theorem nfa_fresh {s : FS} {p : Addr} (x : FeedOk K fa F H s) (hp : H p = none) : Nfa fa p := fun φ z => by
  obtain ⟨g1, g2, g3, g4⟩ := x φ z
  exact ⟨ne_of_none g3.1 hp, fun q hq => by obtain ⟨ps, e⟩ := g3.2.at_ hq; exact ne_of_none e hp⟩
theorem FeedOk.new {s : FS} {p : Addr} {o : HO} (x : FeedOk K fa F H s) (h : Same F H) (hp : H p = none) : FeedOk K fa (upd F p o) (upd H p o) s := by
  have e : Ext fa F H (upd F p o) (upd H p o) := Ext.new h hp
  refine x.ext_same e.ff (fun b u q => ?_) e.fr
  rw [upd_ne (ne_of_none q hp)]; exact q
end

/-! ### the environment of an expression -/
abbrev Env' := List (Option D)
structure EnvOk (K : PySem.W.Frag) (fa : Option FA) (F : Hp) (σ : L2.St) (ρ : Env') : Prop where
  len : ρ.length ≤ σ.length
  at_ : ∀ (i : Nat) (d : D), ρ[i]? = some (some d) → ∃ v, σ[i]? = some (some v) ∧ Rep K fa F d v
theorem EnvOk.mono {K : PySem.W.Frag} {fa : Option FA} {F F' : Hp} {σ : L2.St} {ρ : Env'} (x : EnvOk K fa F σ ρ) (e : Same F F') : EnvOk K fa F' σ ρ := ⟨x.len, fun i d h => by
  obtain ⟨v, h1, h2⟩ := x.at_ i d h
  exact ⟨v, h1, h2.mono e⟩⟩
theorem EnvOk.set {K : PySem.W.Frag} {fa : Option FA} {F : Hp} {σ : L2.St} {ρ : Env'} {i : Nat} {d : D} {v : V} (x : EnvOk K fa F σ ρ) (r : Rep K fa F d v) : EnvOk K fa F (σ.set i (some v)) (ρ.set i (some d)) := ⟨by simpa using x.len, fun j e h => by
  by_cases hj : i = j
  · subst hj
    by_cases hl : i < ρ.length
    · rw [List.getElem?_set_self hl] at h
      cases h
      exact ⟨v, by rw [List.getElem?_set_self (Nat.lt_of_lt_of_le hl x.len)], r⟩
    · rw [List.getElem?_eq_none (by simpa using hl)] at h
      cases h
  · rw [List.getElem?_set_ne hj] at h
    obtain ⟨w, h1, h2⟩ := x.at_ j e h
    exact ⟨w, by rw [List.getElem?_set_ne hj]; exact h1, h2⟩⟩

/-- what an exception is like in a heap -/
def RepX (K : PySem.W.Frag) (mg : Str → Option Value) (fa : Option FA) (F H : Hp) (e : Exc) (cls : Value) (dd : Option Addr) : Prop :=
  mg e.cls = some cls ∧ ∃ d fs, dd = some d ∧ H d = some (.xd fs) ∧ ∀ f x, e.flds.lookup f = some x → ∃ v, fs.lookup f = some v ∧ Rep K fa F x v

/-- a computation's outcome r is what is wanted: Q of its value, W of its exception -/
def GoodK (K : PySem.W.Frag) (mg : Str → Option Value) (fa : Option FA) (W : XK) (F H : Hp) (r : Res D) (Q : VK) : Prop :=
  match r with
  | .bad => False
  | .ok d s' => ∀ v F' H', Ext fa F H F' H' → FeedOk K fa F' H' s' → Rep K fa F' d v → Q v H'
  | .err e s' => ∀ cls dd F' H', Ext fa F H F' H' → FeedOk K fa F' H' s' → RepX K mg fa F' H' e cls dd → W cls dd H'
abbrev Good (X : Cx) (fa : Option FA) (W : XK) (F H : Hp) (r : Res D) (Q : VK) : Prop := GoodK X.K X.mg fa W F H r Q

/-- t does what f says -/
def TOk (X : Cx) (fa : Option FA) (W : L2.St → XK) (t : TE) (f : Env' → M D) : Prop :=
  ∀ (σ : L2.St) (F H : Hp) (ρ : Env') (s : FS) (Q : VK), Same F H → FeedOk X.K fa F H s → EnvOk X.K fa F σ ρ → Good X fa (W σ) F H (f ρ s) Q → t σ H Q
/-- AN EXPRESSION COMPUTES f -/
def ED (X : Cx) (fa : Option FA) (W : L2.St → XK) (e : Expr) (f : Env' → M D) : Prop := ∃ t, PE X e t ∧ TOk X fa W t f

/-- the same of lists (arguments) -/
def GoodL (X : Cx) (fa : Option FA) (W : XK) (F H : Hp) (r : Res (List D)) (Q : List V → Hp → Prop) : Prop :=
  match r with
  | .bad => False
  | .ok d s' => ∀ v F' H', Ext fa F H F' H' → FeedOk X.K fa F' H' s' → RepL X.K fa F' d v → Q v H'
  | .err e s' => ∀ cls dd F' H', Ext fa F H F' H' → FeedOk X.K fa F' H' s' → RepX X.K X.mg fa F' H' e cls dd → W cls dd H'
def TLOk (X : Cx) (fa : Option FA) (W : L2.St → XK) (t : TA) (f : Env' → M (List D)) : Prop :=
  ∀ (σ : L2.St) (F H : Hp) (ρ : Env') (s : FS) (Q : List V → Hp → Prop), Same F H → FeedOk X.K fa F H s → EnvOk X.K fa F σ ρ → GoodL X fa (W σ) F H (f ρ s) Q → t σ H Q
def LD (X : Cx) (fa : Option FA) (W : L2.St → XK) (es : List Expr) (f : Env' → M (List D)) : Prop := ∃ t, PA X es t ∧ TLOk X fa W t f

/-- a test -/
def GoodB (X : Cx) (fa : Option FA) (W : XK) (F H : Hp) (r : Res Bool) (Q : Bool → Hp → Prop) : Prop :=
  match r with
  | .bad => False
  | .ok d s' => ∀ F' H', Ext fa F H F' H' → FeedOk X.K fa F' H' s' → Q d H'
  | .err e s' => ∀ cls dd F' H', Ext fa F H F' H' → FeedOk X.K fa F' H' s' → RepX X.K X.mg fa F' H' e cls dd → W cls dd H'
def TTOk (X : Cx) (fa : Option FA) (W : L2.St → XK) (t : TT) (f : Env' → M Bool) : Prop :=
  ∀ (σ : L2.St) (F H : Hp) (ρ : Env') (s : FS) (Q : Bool → Hp → Prop), Same F H → FeedOk X.K fa F H s → EnvOk X.K fa F σ ρ → GoodB X fa (W σ) F H (f ρ s) Q → t σ H Q
def TD (X : Cx) (fa : Option FA) (W : L2.St → XK) (e : Expr) (f : Env' → M Bool) : Prop := ∃ t, PT X e t ∧ TTOk X fa W t f
def TWD (X : Cx) (fa : Option FA) (W : L2.St → XK) (e : Expr) (f : Env' → M Bool) : Prop := ∃ t, PW X e t ∧ TTOk X fa W t f

/-- what may be wanted of a computation's outcome: nothing bad, an exception as W says, and it stays wanted in later heaps -/
structure Tgt (X : Cx) (fa : Option FA) (W : XK) {β : Type} (G : Hp → Hp → Res β → Prop) : Prop where
  bad : ∀ F H, ¬ G F H .bad
  err : ∀ F H e s, G F H (.err e s) → ∀ cls dd F' H', Ext fa F H F' H' → FeedOk X.K fa F' H' s → RepX X.K X.mg fa F' H' e cls dd → W cls dd H'
  ext : ∀ F H F' H' r, Ext fa F H F' H' → G F H r → G F' H' r

section
variable {X : Cx} {fa : Option FA} {W : XK} {F H F' H' : Hp}
theorem Good.tgt {Q : VK} : Tgt X fa W (fun F H (r : Res D) => Good X fa W F H r Q) := by
  refine ⟨fun _ _ h => h, fun _ _ _ _ h => h, fun F H F' H' r e h => ?_⟩
  cases r with
  | bad => exact h
  | ok d s => exact fun v F2 H2 e2 => h v F2 H2 (e.trans e2)
  | err x s => exact fun c dd F2 H2 e2 => h c dd F2 H2 (e.trans e2)
theorem GoodL.tgt {Q : List V → Hp → Prop} : Tgt X fa W (fun F H (r : Res (List D)) => GoodL X fa W F H r Q) := by
  refine ⟨fun _ _ h => h, fun _ _ _ _ h => h, fun F H F' H' r e h => ?_⟩
  cases r with
  | bad => exact h
  | ok d s => exact fun v F2 H2 e2 => h v F2 H2 (e.trans e2)
  | err x s => exact fun c dd F2 H2 e2 => h c dd F2 H2 (e.trans e2)
theorem GoodB.tgt {Q : Bool → Hp → Prop} : Tgt X fa W (fun F H (r : Res Bool) => GoodB X fa W F H r Q) := by
  refine ⟨fun _ _ h => h, fun _ _ _ _ h => h, fun F H F' H' r e h => ?_⟩
  cases r with
  | bad => exact h
  | ok d s => exact fun F2 H2 e2 => h F2 H2 (e.trans e2)
  | err x s => exact fun c dd F2 H2 e2 => h c dd F2 H2 (e.trans e2)
theorem Tgt.of_ext {β : Type} {G : Hp → Hp → Res β → Prop} (T : Tgt X fa W G) {r : Res β} (e : Ext fa F H F' H') (h : G F H r) : G F' H' r := T.ext F H F' H' r e h

variable {Wσ : L2.St → XK} {σ : L2.St} {ρ : Env'} {s : FS} {β : Type} {G : Hp → Hp → Res β → Prop}
/-- run the first part: t for its f, then the rest g for what comes -/
theorem TOk.then {t : TE} {f : Env' → M D} {g : D → M β} {Q' : VK} (ht : TOk X fa Wσ t f) (T : Tgt X fa (Wσ σ) G) (h1 : Same F H) (h2 : FeedOk X.K fa F H s) (h3 : EnvOk X.K fa F σ ρ)
    (hg : G F H ((f ρ s).bnd g))
    (k : ∀ d s' v F' H', Ext fa F H F' H' → FeedOk X.K fa F' H' s' → Rep X.K fa F' d v → EnvOk X.K fa F' σ ρ → G F' H' (g d s') → Q' v H') : t σ H Q' := by
  refine ht σ F H ρ s Q' h1 h2 h3 ?_
  generalize f ρ s = r at hg
  cases r with
  | bad => exact absurd hg (T.bad F H)
  | err e s' => exact T.err F H e s' hg
  | ok d s' => exact fun v F' H' e fo r => k d s' v F' H' e fo r (h3.mono e.ff) (T.of_ext e hg)
theorem TLOk.then {t : TA} {f : Env' → M (List D)} {g : List D → M β} {Q' : List V → Hp → Prop} (ht : TLOk X fa Wσ t f) (T : Tgt X fa (Wσ σ) G) (h1 : Same F H) (h2 : FeedOk X.K fa F H s) (h3 : EnvOk X.K fa F σ ρ)
    (hg : G F H ((f ρ s).bnd g))
    (k : ∀ d s' v F' H', Ext fa F H F' H' → FeedOk X.K fa F' H' s' → RepL X.K fa F' d v → EnvOk X.K fa F' σ ρ → G F' H' (g d s') → Q' v H') : t σ H Q' := by
  refine ht σ F H ρ s Q' h1 h2 h3 ?_
  generalize f ρ s = r at hg
  cases r with
  | bad => exact absurd hg (T.bad F H)
  | err e s' => exact T.err F H e s' hg
  | ok d s' => exact fun v F' H' e fo r => k d s' v F' H' e fo r (h3.mono e.ff) (T.of_ext e hg)
theorem TTOk.then {t : TT} {f : Env' → M Bool} {g : Bool → M β} {Q' : Bool → Hp → Prop} (ht : TTOk X fa Wσ t f) (T : Tgt X fa (Wσ σ) G) (h1 : Same F H) (h2 : FeedOk X.K fa F H s) (h3 : EnvOk X.K fa F σ ρ)
    (hg : G F H ((f ρ s).bnd g))
    (k : ∀ d s' F' H', Ext fa F H F' H' → FeedOk X.K fa F' H' s' → EnvOk X.K fa F' σ ρ → G F' H' (g d s') → Q' d H') : t σ H Q' := by
  refine ht σ F H ρ s Q' h1 h2 h3 ?_
  generalize f ρ s = r at hg
  cases r with
  | bad => exact absurd hg (T.bad F H)
  | err e s' => exact T.err F H e s' hg
  | ok d s' => exact fun F' H' e fo => k d s' F' H' e fo (h3.mono e.ff) (T.of_ext e hg)
/-- an outcome that is there at once -/
theorem Good.here {d : D} {v : V} {Q : VK} (h1 : Same F H) (h2 : FeedOk X.K fa F H s) (r : Rep X.K fa F d v) (h : Good X fa W F H (.ok d s) Q) : Q v H := h v F H (Ext.refl h1) h2 r
theorem Good.new {d : D} {p : Addr} {o : HO} {Q : VK} (h1 : Same F H) (h2 : FeedOk X.K fa F H s) (hp : H p = none) (r : Rep X.K fa (upd F p o) d (.ref p)) (h : Good X fa W F H (.ok d s) Q) : Q (.ref p) (upd H p o) :=
  h _ _ _ (Ext.new h1 hp) (h2.new h1 hp) r
end
/-! ### rules by values -/
/-- what a computation on values gives: g of their data; it touches nothing but makes new objects -/
def GoodO (X : Cx) (fa : Option FA) (F H : Hp) (s : FS) (o : Option D) (Q : VK) : Prop :=
  match o with
  | none => False
  | some d => ∀ v F' H', Ext fa F H F' H' → FeedOk X.K fa F' H' s → Rep X.K fa F' d v → Q v H'
theorem Good.lift {X : Cx} {fa : Option FA} {W : XK} {F H : Hp} {s : FS} {o : Option D} {Q : VK} (h : Good X fa W F H (M.lift o s) Q) : GoodO X fa F H s o Q := by
  cases o with
  | none => exact h
  | some d => exact h
theorem GoodO.here {X : Cx} {fa : Option FA} {F H : Hp} {s : FS} {d : D} {v : V} {Q : VK} (h1 : Same F H) (h2 : FeedOk X.K fa F H s) (r : Rep X.K fa F d v) (h : GoodO X fa F H s (some d) Q) : Q v H := h v F H (Ext.refl h1) h2 r
theorem GoodO.new {X : Cx} {fa : Option FA} {F H : Hp} {s : FS} {d : D} {p : Addr} {o : HO} {Q : VK} (h1 : Same F H) (h2 : FeedOk X.K fa F H s) (hp : H p = none) (r : Rep X.K fa (upd F p o) d (.ref p)) (h : GoodO X fa F H s (some d) Q) : Q (.ref p) (upd H p o) :=
  h _ _ _ (Ext.new h1 hp) (h2.new h1 hp) r
def OpOk (X : Cx) (fa : Option FA) (r : R2) (g : D → D → Option D) : Prop :=
  ∀ (F H : Hp) (s : FS) (x y : V) (a b : D) (Q : VK), Same F H → FeedOk X.K fa F H s → Rep X.K fa F a x → Rep X.K fa F b y → GoodO X fa F H s (g a b) Q → r x y H Q
def UnOk (X : Cx) (fa : Option FA) (r : V → Hp → VK → Prop) (g : D → Option D) : Prop :=
  ∀ (F H : Hp) (s : FS) (x : V) (a : D) (Q : VK), Same F H → FeedOk X.K fa F H s → Rep X.K fa F a x → GoodO X fa F H s (g a) Q → r x H Q
def CallOk (X : Cx) (fa : Option FA) (r : List V → Hp → VK → Prop) (g : List D → Option D) : Prop :=
  ∀ (F H : Hp) (s : FS) (xs : List V) (as : List D) (Q : VK), Same F H → FeedOk X.K fa F H s → RepL X.K fa F as xs → GoodO X fa F H s (g as) Q → r xs H Q
def MtOk (X : Cx) (fa : Option FA) (r : V → List V → Hp → VK → Prop) (g : D → List D → Option D) : Prop :=
  ∀ (F H : Hp) (s : FS) (x : V) (xs : List V) (a : D) (as : List D) (Q : VK), Same F H → FeedOk X.K fa F H s → Rep X.K fa F a x → RepL X.K fa F as xs → GoodO X fa F H s (g a as) Q → r x xs H Q
end DL

set_option Elab.async false
set_option linter.all false
set_option maxRecDepth 100000
set_option maxHeartbeats 2000000
/-! The data layer: rules for expressions. -/
namespace DL
open PySem PySem.Spec PyProof.Rows L2

/-! ### what is computed -/
def dVar (i : Nat) : Env' → M D := fun ρ => M.lift (ρ[i]?.join)
def dC (d : D) : Env' → M D := fun _ => M.pure d
def dOp (g : D → D → Option D) (f1 f2 : Env' → M D) : Env' → M D := fun ρ => (f1 ρ).bind fun x => (f2 ρ).bind fun y => M.lift (g x y)
def dUn (g : D → Option D) (f1 : Env' → M D) : Env' → M D := fun ρ => (f1 ρ).bind fun x => M.lift (g x)
def lNil : Env' → M (List D) := fun _ => M.pure []
def lCons (f1 : Env' → M D) (f2 : Env' → M (List D)) : Env' → M (List D) := fun ρ => (f1 ρ).bind fun x => (f2 ρ).bind fun xs => M.pure (x :: xs)
def seqD : D → Option (List D)
  | .tup xs => some xs
  | .lst xs => some xs
  | _ => none
def lStar (f1 : Env' → M D) (f2 : Env' → M (List D)) : Env' → M (List D) := fun ρ => (f1 ρ).bind fun x => (M.lift (seqD x)).bind fun xs => (f2 ρ).bind fun ys => M.pure (xs ++ ys)
def mkTup (xs : List D) : Option D := if xs.length ≤ sizeLine then some (.tup xs) else none
def mkLst (xs : List D) : Option D := if xs.length ≤ sizeLine then some (.lst xs) else none
def dFn (g : List D → Option D) (f : Env' → M (List D)) : Env' → M D := fun ρ => (f ρ).bind fun xs => M.lift (g xs)
def dCall (g : List D → M D) (f : Env' → M (List D)) : Env' → M D := fun ρ => (f ρ).bind g
def dMt (g : D → List D → Option D) (f1 : Env' → M D) (f : Env' → M (List D)) : Env' → M D := fun ρ => (f1 ρ).bind fun x => (f ρ).bind fun xs => M.lift (g x xs)
def dIf (c : Env' → M Bool) (f1 f2 : Env' → M D) : Env' → M D := fun ρ => (c ρ).bind fun k => if k = true then f1 ρ else f2 ρ
def truthD : D → Option Bool
  | .non => some false
  | .bl b => some b
  | .int i => some (i != 0)
  | .str y => if y.length ≤ sizeLine then some ((y.length : Int) != 0) else none
  | .tup xs => some (!xs.isEmpty)
  | .lst xs => some (!xs.isEmpty)
  | _ => none
def dAnd (f1 f2 : Env' → M D) : Env' → M D := fun ρ => (f1 ρ).bind fun x => (M.lift (truthD x)).bind fun k => if k = true then f2 ρ else M.pure x
def dOr (f1 f2 : Env' → M D) : Env' → M D := fun ρ => (f1 ρ).bind fun x => (M.lift (truthD x)).bind fun k => if k = true then M.pure x else f2 ρ
def dNot (f1 : Env' → M D) : Env' → M D := fun ρ => (f1 ρ).bind fun x => (M.lift (truthD x)).bind fun k => M.pure (.bl (!k))
def cTru (f1 : Env' → M D) : Env' → M Bool := fun ρ => (f1 ρ).bind fun x => M.lift (truthD x)
def blD : D → Option Bool
  | .bl b => some b
  | _ => none
def cCmp (g : D → D → Option D) (f1 f2 : Env' → M D) : Env' → M Bool := fun ρ => (f1 ρ).bind fun x => (f2 ρ).bind fun y => (M.lift (g x y)).bind fun z => M.lift (blD z)
def dChain (g g' : D → D → Option D) (f1 f2 f3 : Env' → M D) : Env' → M D := fun ρ => (f1 ρ).bind fun x => (f2 ρ).bind fun y => (M.lift (g x y)).bind fun z => (M.lift (blD z)).bind fun k =>
  if k = true then (f3 ρ).bind fun w => M.lift (g' y w) else M.pure (.bl false)
def cChain (g g' : D → D → Option D) (f1 f2 f3 : Env' → M D) : Env' → M Bool := fun ρ => (dChain g g' f1 f2 f3 ρ).bind fun z => M.lift (blD z)
def cNot (c : Env' → M Bool) : Env' → M Bool := fun ρ => (c ρ).bind fun k => M.pure (!k)
def cAnd (c1 c2 : Env' → M Bool) : Env' → M Bool := fun ρ => (c1 ρ).bind fun k => if k = true then c2 ρ else M.pure false
def cOr (c1 c2 : Env' → M Bool) : Env' → M Bool := fun ρ => (c1 ρ).bind fun k => if k = true then M.pure true else c2 ρ

section
variable {X : Cx} {fa : Option FA} {W : L2.St → XK} {a b c e o : Expr} {es rest : List Expr} {pos p apos : Pos} {f1 f2 f3 : Env' → M D} {fl : Env' → M (List D)} {c1 c2 : Env' → M Bool}

theorem tok_var (i : Nat) : TOk X fa W (tVar i) (dVar i) := by
  intro σ F H ρ s Q h1 h2 h3 h
  unfold dVar at h
  cases e : ρ[i]? with
  | none => rw [e] at h; exact h.elim
  | some q =>
    cases q with
    | none => rw [e] at h; exact h.elim
    | some d =>
      rw [e] at h
      obtain ⟨v, hv, r⟩ := h3.at_ i d e
      exact ⟨v, hv, Good.here h1 h2 r h⟩
theorem ed_var (i : Nat) {x : Str} (hN : X.N[i]? = some x := by rfl) (hv : Vis X.env.scope x := by first | exact Or.inl rfl | exact Or.inr (Or.inl rfl) | exact Or.inr (Or.inr rfl)) (hd : (x == ("__debug__" : Str)) = false := by decide) (hcd : (x == ("__classdict__" : Str)) = false := by decide) :
    ED X fa W (.Name x pos) (dVar i) := ⟨_, pe_var hN hv hd hcd, tok_var i⟩
theorem tok_c {v : V} {d : D} (hr : ∀ F, Rep X.K fa F d v) : TOk X fa W (tC v) (dC d) := fun σ F H ρ s Q h1 h2 h3 h => Good.here h1 h2 (hr F) h
theorem ed_int {i : Int} {j : Nat} : ED X fa W (.Constant (.int i) j pos) (dC (.int i)) := ⟨_, pe_int, tok_c fun _ => .int i⟩
theorem ed_bl {i : Bool} {j : Nat} : ED X fa W (.Constant (.bool i) j pos) (dC (.bl i)) := ⟨_, pe_bl, tok_c fun _ => .bl i⟩
theorem ed_non {j : Nat} : ED X fa W (.Constant .none j pos) (dC .non) := ⟨_, pe_non, tok_c fun _ => .non⟩
theorem ed_str {x : Str} {j : Nat} : ED X fa W (.Constant (.str x) j pos) (dC (.str x)) := ⟨_, pe_str, tok_c fun _ => .str x⟩
/-- a module's constant -/
theorem ed_glob {x : Str} {v : V} {u : Value} (d : D) (hr : ∀ F, Rep X.K fa F d v) (hm : X.mg x = some u) (r : RelV v u) (hg : Gl X x := by rfl) (hd : (x == ("__debug__" : Str)) = false := by decide) : ED X fa W (.Name x pos) (dC d) :=
  ⟨_, pe_glob hg hm r hd, tok_c hr⟩
/-- a built-in class as a value -/
theorem ed_ty {x : Str} (n : String) (hm : X.mg x = none) (hv : bootBuiltins x = some (.type n) := by decide +kernel) (hg : Gl X x := by rfl) (hn : x ≠ "__name__" := by decide) (hd : (x == ("__debug__" : Str)) = false := by decide) :
    ED X fa W (.Name x pos) (dC (.opq (.ty n))) := ⟨_, pe_bltn hg hm hv (v := .ty n) rfl hn hd, tok_c fun _ => .opq _⟩

/-! ### operators -/
theorem tok_op {r : R2} {g : D → D → Option D} {ta tb : TE} (ok : OpOk X fa r g) (ha : TOk X fa W ta f1) (hb : TOk X fa W tb f2) : TOk X fa W (tOp r ta tb) (dOp g f1 f2) := by
  intro σ F H ρ s Q h1 h2 h3 h
  refine ha.then Good.tgt h1 h2 h3 h fun x s1 v F1 H1 e1 o1 r1 v1 h' => ?_
  refine hb.then Good.tgt e1.fh o1 v1 h' fun y s2 w F2 H2 e2 o2 r2 v2 h'' => ?_
  exact ok F2 H2 s2 v w x y Q e2.fh o2 (r1.mono e2.ff) r2 (Good.lift h'')
theorem ed_op {op : Operator} {r : R2} {g : D → D → Option D} (ho : OpR X (binaryOp op) r) (ok : OpOk X fa r g) (ha : ED X fa W a f1) (hb : ED X fa W b f2) : ED X fa W (.BinOp a op b pos) (dOp g f1 f2) := by
  obtain ⟨ta, pa, ka⟩ := ha
  obtain ⟨tb, pb, kb⟩ := hb
  exact ⟨_, pe_op ho pa pb, tok_op ok ka kb⟩
theorem ed_un {op : UnaryOp} {r : V → Hp → VK → Prop} {g : D → Option D} (ho : UnR X (unaryOp op) r) (ok : UnOk X fa r g) (ha : ED X fa W a f1) : ED X fa W (.UnaryOp op a pos) (dUn g f1) := by
  obtain ⟨ta, pa, ka⟩ := ha
  refine ⟨_, pe_un ho pa, fun σ F H ρ s Q h1 h2 h3 h => ?_⟩
  refine ka.then Good.tgt h1 h2 h3 h fun x s1 v F1 H1 e1 o1 r1 v1 h' => ?_
  exact ok F1 H1 s1 v x Q e1.fh o1 r1 (Good.lift h')
theorem ed_cmp {op : CmpOp} {r : R2} {g : D → D → Option D} (ho : OpR X (compareOp op) r) (ok : OpOk X fa r g) (ha : ED X fa W a f1) (hb : ED X fa W b f2) (hm : behindInMarks op b = false := by first | exact nomark _ | rfl) :
    ED X fa W (.Compare a [op] [b] pos) (dOp g f1 f2) := by
  obtain ⟨ta, pa, ka⟩ := ha
  obtain ⟨tb, pb, kb⟩ := hb
  exact ⟨_, pe_cmpR ho pa pb hm, tok_op ok ka kb⟩
/-- an outcome that must be a bool -/
theorem goodO_bl {F H : Hp} {W1 : XK} {s : FS} {z : Option D} {Q : Bool → Hp → Prop} (h1 : Same F H) (h2 : FeedOk X.K fa F H s) (h : GoodB X fa W1 F H (((M.lift z).bind fun z => M.lift (blD z)) s) Q) : GoodO X fa F H s z (fun x H' => ∃ k, x = .bl k ∧ Q k H') := by
  cases z with
  | none => exact h
  | some d =>
    cases d with
    | bl k => exact fun v F' H' e o r => by cases r; exact ⟨k, rfl, h F' H' e o⟩
    | _ => exact h.elim
theorem td_cmp {op : CmpOp} {r : R2} {g : D → D → Option D} (ho : OpR X (compareOp op) r) (ok : OpOk X fa r g) (ha : ED X fa W a f1) (hb : ED X fa W b f2) (hm : behindInMarks op b = false := by first | exact nomark _ | rfl) :
    TD X fa W (.Compare a [op] [b] pos) (cCmp g f1 f2) := by
  obtain ⟨ta, pa, ka⟩ := ha
  obtain ⟨tb, pb, kb⟩ := hb
  refine ⟨_, pt_cmpR ho pa pb hm, fun σ F H ρ s Q h1 h2 h3 h => ?_⟩
  refine ka.then GoodB.tgt h1 h2 h3 h fun x s1 v F1 H1 e1 o1 r1 v1 h' => ?_
  refine kb.then GoodB.tgt e1.fh o1 v1 h' fun y s2 w F2 H2 e2 o2 r2 v2 h'' => ?_
  exact ok F2 H2 s2 v w x y _ e2.fh o2 (r1.mono e2.ff) r2 (goodO_bl e2.fh o2 h'')
theorem tok_chain {r r' : R2} {g g' : D → D → Option D} {ta tb tc : TE} (ok : OpOk X fa r g) (ok' : OpOk X fa r' g') (ha : TOk X fa W ta f1) (hb : TOk X fa W tb f2) (hc : TOk X fa W tc f3) : TOk X fa W (tChain r r' ta tb tc) (dChain g g' f1 f2 f3) := by
  intro σ F H ρ s Q h1 h2 h3 h
  refine ha.then Good.tgt h1 h2 h3 h fun x s1 v F1 H1 e1 o1 r1 v1 h' => ?_
  refine hb.then Good.tgt e1.fh o1 v1 h' fun y s2 w F2 H2 e2 o2 r2 v2 h'' => ?_
  refine ok F2 H2 s2 v w x y _ e2.fh o2 (r1.mono e2.ff) r2 ?_
  change Good X fa (W σ) F2 H2 (((M.lift (g x y)).bind _) s2) Q at h''
  cases q : g x y with
  | none => rw [q] at h''; exact h''
  | some z =>
    rw [q] at h''
    cases z with
    | bl k =>
      intro v' F3 H3 e3 o3 r3
      cases r3
      refine ⟨k, rfl, ?_⟩
      have h4 := Good.tgt.of_ext e3 h''
      cases k with
      | true =>
        refine iteT ?_
        refine hc.then Good.tgt e3.fh o3 (v2.mono e3.ff) h4 fun z s3 w3 F4 H4 e4 o4 r4 v4 h5 => ?_
        exact ok' F4 H4 s3 w w3 y z Q e4.fh o4 (r2.mono (e3.ff.trans e4.ff)) r4 (Good.lift h5)
      | false => exact iteF (Good.here e3.fh o3 (.bl false) h4)
    | _ => exact h''.elim
theorem ed_chain {op op' : CmpOp} {r r' : R2} {g g' : D → D → Option D} (ho : OpR X (compareOp op) r) (ok : OpOk X fa r g) (ho' : OpR X (compareOp op') r') (ok' : OpOk X fa r' g') (ha : ED X fa W a f1) (hb : ED X fa W b f2) (hc : ED X fa W c f3)
    (hm : lastMarks [op, op'] [b, c] = false := by with_unfolding_all rfl) : ED X fa W (.Compare a [op, op'] [b, c] pos) (dChain g g' f1 f2 f3) := by
  obtain ⟨ta, pa, ka⟩ := ha
  obtain ⟨tb, pb, kb⟩ := hb
  obtain ⟨tc, pc, kc⟩ := hc
  exact ⟨_, pe_chain ho ho' pa pb pc hm, tok_chain ok ok' ka kb kc⟩
theorem td_chain {op op' : CmpOp} {r r' : R2} {g g' : D → D → Option D} (ho : OpR X (compareOp op) r) (ok : OpOk X fa r g) (ho' : OpR X (compareOp op') r') (ok' : OpOk X fa r' g') (ha : ED X fa W a f1) (hb : ED X fa W b f2) (hc : ED X fa W c f3)
    (hm : lastMarks [op, op'] [b, c] = false := by with_unfolding_all rfl) : TD X fa W (.Compare a [op, op'] [b, c] pos) (cChain g g' f1 f2 f3) := by
  obtain ⟨ta, pa, ka⟩ := ha
  obtain ⟨tb, pb, kb⟩ := hb
  obtain ⟨tc, pc, kc⟩ := hc
  refine ⟨_, pt_chain ho ho' pa pb pc hm, fun σ F H ρ s Q h1 h2 h3 h => ?_⟩
  refine (tok_chain ok ok' ka kb kc).then GoodB.tgt h1 h2 h3 h fun x s1 v F1 H1 e1 o1 r1 v1 h' => ?_
  cases x with
  | bl k => cases r1; exact ⟨k, rfl, h' F1 H1 (Ext.refl e1.fh) o1⟩
  | _ => exact h'.elim

/-! ### truth -/
theorem tru_rep {F H : Hp} {x : V} {d : D} {k : Bool} (h1 : Same F H) (r : Rep X.K fa F d x) (h : truthD d = some k) : TruV X.K x H k := by
  cases r with
  | non => cases h; rfl
  | bl b => cases h; rfl
  | int i => cases h; rfl
  | str y =>
    by_cases hl : y.length ≤ sizeLine
    · rw [show truthD (.str y) = some ((y.length : Int) != 0) from if_pos hl] at h
      cases h; exact ⟨hl, rfl⟩
    · rw [show truthD (.str y) = none from if_neg hl] at h
      cases h
  | feed a e => cases h
  | opq v => cases h
  | scr _ => cases h
  | tup h' r =>
    cases h
    refine .inr (.inl ⟨_, same_seqT h1 h', ?_⟩)
    cases r <;> rfl
  | lst h' r =>
    cases h
    refine .inl ⟨_, SqL.of (h1 _ _ h'), ?_⟩
    cases r <;> rfl
  | dic h' r => cases h
  | ins _ _ _ => cases h
  | ptup _ _ _ => cases h
theorem td_tru (ha : ED X fa W a f1) (he : ∀ whole, isTrue a X.env whole = (do let v ← whole; standAt a.pos; holding [v] (truthy v)) := by intro _; rfl) : TD X fa W a (cTru f1) := by
  obtain ⟨ta, pa, ka⟩ := ha
  refine ⟨_, pt_truth pa he, fun σ F H ρ s Q h1 h2 h3 h => ?_⟩
  refine ka.then GoodB.tgt h1 h2 h3 h fun x s1 v F1 H1 e1 o1 r1 v1 h' => ?_
  cases q : truthD x with
  | none => rw [q] at h'; exact h'.elim
  | some k =>
    rw [q] at h'
    exact ⟨k, tru_rep e1.fh r1 q, h' F1 H1 (Ext.refl e1.fh) o1⟩
theorem td_not (ha : TD X fa W a c1) : TD X fa W (.UnaryOp .Not a pos) (cNot c1) := by
  obtain ⟨ta, pa, ka⟩ := ha
  refine ⟨_, pt_not pa, fun σ F H ρ s Q h1 h2 h3 h => ?_⟩
  exact ka.then GoodB.tgt h1 h2 h3 h fun x s1 F1 H1 e1 o1 v1 h' => h' F1 H1 (Ext.refl e1.fh) o1
theorem twd_and1 (ha : TD X fa W a c1) : TWD X fa W (.BoolOp .And [a] pos) c1 := by
  obtain ⟨ta, pa, ka⟩ := ha
  exact ⟨_, pw_and1 pa, ka⟩
theorem twd_or1 (ha : TD X fa W a c1) : TWD X fa W (.BoolOp .Or [a] pos) c1 := by
  obtain ⟨ta, pa, ka⟩ := ha
  exact ⟨_, pw_or1 pa, ka⟩
theorem twd_and (ha : TD X fa W a c1) (hb : TWD X fa W (.BoolOp .And (b :: rest) pos) c2) : TWD X fa W (.BoolOp .And (a :: b :: rest) pos) (cAnd c1 c2) := by
  obtain ⟨ta, pa, ka⟩ := ha
  obtain ⟨tb, pb, kb⟩ := hb
  refine ⟨_, pw_and pa pb, fun σ F H ρ s Q h1 h2 h3 h => ?_⟩
  refine ka.then GoodB.tgt h1 h2 h3 h fun x s1 F1 H1 e1 o1 v1 h' => ?_
  cases x with
  | true => exact iteT (kb σ F1 H1 ρ s1 Q e1.fh o1 v1 h')
  | false => exact iteF (h' F1 H1 (Ext.refl e1.fh) o1)
theorem twd_or (ha : TD X fa W a c1) (hb : TWD X fa W (.BoolOp .Or (b :: rest) pos) c2) : TWD X fa W (.BoolOp .Or (a :: b :: rest) pos) (cOr c1 c2) := by
  obtain ⟨ta, pa, ka⟩ := ha
  obtain ⟨tb, pb, kb⟩ := hb
  refine ⟨_, pw_or pa pb, fun σ F H ρ s Q h1 h2 h3 h => ?_⟩
  refine ka.then GoodB.tgt h1 h2 h3 h fun x s1 F1 H1 e1 o1 v1 h' => ?_
  cases x with
  | false => exact iteF (kb σ F1 H1 ρ s1 Q e1.fh o1 v1 h')
  | true => exact iteT (h' F1 H1 (Ext.refl e1.fh) o1)
theorem TWD.td (h : TWD X fa W a c1) : TD X fa W a c1 := by
  obtain ⟨t, p, k⟩ := h
  exact ⟨t, p.pt, k⟩
theorem ed_one {op : BoolOp} (ha : ED X fa W a f1) : ED X fa W (.BoolOp op [a] pos) f1 := by
  obtain ⟨ta, pa, ka⟩ := ha
  exact ⟨_, pe_one pa, ka⟩
theorem ed_and (ha : ED X fa W a f1) (hb : ED X fa W (.BoolOp .And (b :: rest) pos) f2) : ED X fa W (.BoolOp .And (a :: b :: rest) pos) (dAnd f1 f2) := by
  obtain ⟨ta, pa, ka⟩ := ha
  obtain ⟨tb, pb, kb⟩ := hb
  refine ⟨_, L2.pe_andT pa pb, fun σ F H ρ s Q h1 h2 h3 h => ?_⟩
  refine ka.then Good.tgt h1 h2 h3 h fun x s1 v F1 H1 e1 o1 r1 v1 h' => ?_
  change Good X fa (W σ) F1 H1 (((M.lift (truthD x)).bind _) s1) Q at h'
  cases q : truthD x with
  | none => rw [q] at h'; exact h'.elim
  | some k =>
    rw [q] at h'
    refine ⟨k, tru_rep e1.fh r1 q, ?_⟩
    cases k with
    | true => exact iteT (kb σ F1 H1 ρ s1 Q e1.fh o1 v1 h')
    | false => exact iteF (Good.here e1.fh o1 r1 h')
theorem ed_or (ha : ED X fa W a f1) (hb : ED X fa W (.BoolOp .Or (b :: rest) pos) f2) : ED X fa W (.BoolOp .Or (a :: b :: rest) pos) (dOr f1 f2) := by
  obtain ⟨ta, pa, ka⟩ := ha
  obtain ⟨tb, pb, kb⟩ := hb
  refine ⟨_, L2.pe_orT pa pb, fun σ F H ρ s Q h1 h2 h3 h => ?_⟩
  refine ka.then Good.tgt h1 h2 h3 h fun x s1 v F1 H1 e1 o1 r1 v1 h' => ?_
  change Good X fa (W σ) F1 H1 (((M.lift (truthD x)).bind _) s1) Q at h'
  cases q : truthD x with
  | none => rw [q] at h'; exact h'.elim
  | some k =>
    rw [q] at h'
    refine ⟨k, tru_rep e1.fh r1 q, ?_⟩
    cases k with
    | false => exact iteF (kb σ F1 H1 ρ s1 Q e1.fh o1 v1 h')
    | true => exact iteT (Good.here e1.fh o1 r1 h')
theorem ed_not (ha : ED X fa W a f1) : ED X fa W (.UnaryOp .Not a pos) (dNot f1) := by
  obtain ⟨ta, pa, ka⟩ := ha
  refine ⟨_, L2.pe_notT pa, fun σ F H ρ s Q h1 h2 h3 h => ?_⟩
  refine ka.then Good.tgt h1 h2 h3 h fun x s1 v F1 H1 e1 o1 r1 v1 h' => ?_
  change Good X fa (W σ) F1 H1 (((M.lift (truthD x)).bind _) s1) Q at h'
  cases q : truthD x with
  | none => rw [q] at h'; exact h'.elim
  | some k =>
    rw [q] at h'
    exact ⟨k, tru_rep e1.fh r1 q, Good.here e1.fh o1 (.bl _) h'⟩
theorem ed_if (hc : TD X fa W c c1) (ha : ED X fa W a f1) (hb : ED X fa W b f2) : ED X fa W (.IfExp c a b pos) (dIf c1 f1 f2) := by
  obtain ⟨tc, pc, kc⟩ := hc
  obtain ⟨ta, pa, ka⟩ := ha
  obtain ⟨tb, pb, kb⟩ := hb
  refine ⟨_, pe_ifExp pc pa pb, fun σ F H ρ s Q h1 h2 h3 h => ?_⟩
  refine kc.then Good.tgt h1 h2 h3 h fun x s1 F1 H1 e1 o1 v1 h' => ?_
  cases x with
  | true => exact iteT (ka σ F1 H1 ρ s1 Q e1.fh o1 v1 h')
  | false => exact iteF (kb σ F1 H1 ρ s1 Q e1.fh o1 v1 h')

/-! ### lists of expressions, displays -/
theorem ld_nil : LD X fa W [] lNil := ⟨_, pa_nil, fun σ F H ρ s Q h1 h2 h3 h => h [] F H (Ext.refl h1) h2 .nil⟩
theorem ld_cons (ha : ED X fa W e f1) (hr : LD X fa W es fl) (hs : starEach (e :: es) X.env = (false, eval e X.env) :: starEach es X.env := by rfl) : LD X fa W (e :: es) (lCons f1 fl) := by
  obtain ⟨ta, pa, ka⟩ := ha
  obtain ⟨tr, pr, kr⟩ := hr
  refine ⟨_, pa_cons pa pr hs, fun σ F H ρ s Q h1 h2 h3 h => ?_⟩
  refine ka.then GoodL.tgt h1 h2 h3 h fun x s1 v F1 H1 e1 o1 r1 v1 h' => ?_
  refine kr.then GoodL.tgt e1.fh o1 v1 h' fun y s2 w F2 H2 e2 o2 r2 v2 h'' => ?_
  exact h'' _ F2 H2 (Ext.refl e2.fh) o2 (.cons (r1.mono e2.ff) r2)
theorem ld_star (ha : ED X fa W e f1) (hr : LD X fa W es fl) (hs : starEach (.Starred e p :: es) X.env = (true, eval e X.env) :: starEach es X.env := by rfl) : LD X fa W (.Starred e p :: es) (lStar f1 fl) := by
  obtain ⟨ta, pa, ka⟩ := ha
  obtain ⟨tr, pr, kr⟩ := hr
  refine ⟨_, StX.pa_star pa pr hs, fun σ F H ρ s Q h1 h2 h3 h => ?_⟩
  refine ka.then GoodL.tgt h1 h2 h3 h fun x s1 v F1 H1 e1 o1 r1 v1 h' => ?_
  change GoodL X fa (W σ) F1 H1 (((M.lift (seqD x)).bind _) s1) Q at h'
  cases r1 with
  | tup hq rl =>
    refine ⟨_, _, rfl, .inl (same_seqT e1.fh hq), ?_⟩
    refine kr.then GoodL.tgt e1.fh o1 v1 h' fun y s2 w F2 H2 e2 o2 r2 v2 h'' => ?_
    exact h'' _ F2 H2 (Ext.refl e2.fh) o2 ((rl.mono e2.ff).append r2)
  | lst hq rl =>
    refine ⟨_, _, rfl, .inr (SqL.of (e1.fh _ _ hq)), ?_⟩
    refine kr.then GoodL.tgt e1.fh o1 v1 h' fun y s2 w F2 H2 e2 o2 r2 v2 h'' => ?_
    exact h'' _ F2 H2 (Ext.refl e2.fh) o2 ((rl.mono e2.ff).append r2)
  | _ => exact h'.elim
theorem GoodO.mkTup {F H : Hp} {s : FS} {xs : List D} {vs : List V} {Q : VK} (h1 : Same F H) (h2 : FeedOk X.K fa F H s) (r : RepL X.K fa F xs vs) (h : GoodO X fa F H s (mkTup xs) Q) : vs.length ≤ sizeLine ∧ ∀ p, H p = none → Q (.ref p) (upd H p (.tup vs)) := by
  unfold DL.mkTup at h
  split at h
  · rename_i hl
    refine ⟨by rw [← r.length]; exact hl, fun p hp => GoodO.new h1 h2 hp (.tup (SqT.of upd_same) (r.mono (Ext.new (fa := fa) h1 hp).ff)) h⟩
  · exact h.elim
theorem GoodO.mkLst {F H : Hp} {s : FS} {xs : List D} {vs : List V} {Q : VK} (h1 : Same F H) (h2 : FeedOk X.K fa F H s) (r : RepL X.K fa F xs vs) (h : GoodO X fa F H s (mkLst xs) Q) : vs.length ≤ sizeLine ∧ ∀ p, H p = none → Q (.ref p) (upd H p (.lst vs)) := by
  unfold DL.mkLst at h
  split at h
  · rename_i hl
    refine ⟨by rw [← r.length]; exact hl, fun p hp => GoodO.new h1 h2 hp (.lst upd_same (r.mono (Ext.new (fa := fa) h1 hp).ff)) h⟩
  · exact h.elim
theorem ed_tup {k : Nat} (ha : LD X fa W es fl) : ED X fa W (.Tuple es k pos) (dFn mkTup fl) := by
  obtain ⟨ta, pa, ka⟩ := ha
  refine ⟨_, pe_tup pa, fun σ F H ρ s Q h1 h2 h3 h => ?_⟩
  refine ka.then Good.tgt h1 h2 h3 h fun x s1 v F1 H1 e1 o1 r1 v1 h' => ?_
  exact GoodO.mkTup e1.fh o1 r1 (Good.lift h')
theorem ed_lst (ha : LD X fa W es fl) : ED X fa W (.List es pos) (dFn mkLst fl) := by
  obtain ⟨ta, pa, ka⟩ := ha
  refine ⟨_, pe_lst pa, fun σ F H ρ s Q h1 h2 h3 h => ?_⟩
  refine ka.then Good.tgt h1 h2 h3 h fun x s1 v F1 H1 e1 o1 r1 v1 h' => ?_
  exact GoodO.mkLst e1.fh o1 r1 (Good.lift h')

/-! ### calls -/
/-- the promise of a def: it computes g -/
def DSp (K : PySem.W.Frag) (mg : Str → Option Value) (g : List D → M D) : Sp := fun vs H Q E =>
  ∃ fa F s ds, Same F H ∧ FeedOk K fa F H s ∧ RepL K fa F ds vs ∧ GoodK K mg fa E F H (g ds s) Q
theorem ed_call {CX : CXT} {k : Nat} {f : Addr} {fd : FuncData} {ps : List Str} {g : List D → M D} {x : Str} (F : FnOk X.prog X.w X.K X.mg X.base CX k f fd ps (DSp X.K X.mg g)) (hr : Room k X.A) (hm : X.mg x = some (.ref f)) (hk : PySem.W.keepIn X.K (.ref f) = true) (hb : Binds X.K fd ps [])
    (hx : ∀ σ, PassesAt CX X σ (W σ)) (ha : LD X fa W (e :: es) fl) (hg : Gl X x := by rfl) (hdb : (x == ("__debug__" : Str)) = false := by decide) (he : starEach (e :: es) X.env = (false, eval e X.env) :: starEach es X.env := by rfl) (hpl : (backTo pos (starEach es X.env)).any (·.1) = false := by rfl) :
    ED X fa W (.Call (.Name x p) (e :: es) [] pos) (dCall g fl) := by
  obtain ⟨ta, pa, ka⟩ := ha
  refine ⟨_, pe_callS F hr hg hm hk hb hx pa hdb he hpl, fun σ F H ρ s Q h1 h2 h3 h => ?_⟩
  refine ka.then Good.tgt h1 h2 h3 h fun x s1 v F1 H1 e1 o1 r1 v1 h' => ?_
  exact ⟨fa, F1, s1, x, e1.fh, o1, r1, h'⟩
theorem ed_callB {id : String} {r : List V → Hp → VK → Prop} {g : List D → Option D} {x : Str} (hc : CallR X (.builtin id) r) (ok : CallOk X fa r g) (hm : X.mg x = none) (ha : LD X fa W (e :: es) fl) (hv : bootBuiltins x = some (.builtin id) := by decide +kernel)
    (hg : Gl X x := by rfl) (hn : x ≠ "__name__" := by decide) (hdb : (x == ("__debug__" : Str)) = false := by decide) (he : starEach (e :: es) X.env = (false, eval e X.env) :: starEach es X.env := by rfl) (hpl : (backTo pos (starEach es X.env)).any (·.1) = false := by rfl) :
    ED X fa W (.Call (.Name x p) (e :: es) [] pos) (dFn g fl) := by
  obtain ⟨ta, pa, ka⟩ := ha
  refine ⟨_, pe_callB hc hg hm hv pa hn hdb he hpl, fun σ F H ρ s Q h1 h2 h3 h => ?_⟩
  refine ka.then Good.tgt h1 h2 h3 h fun x s1 v F1 H1 e1 o1 r1 v1 h' => ?_
  exact ok F1 H1 s1 v x Q e1.fh o1 r1 (Good.lift h')
theorem ed_callTy {T : String} {r : List V → Hp → VK → Prop} {g : List D → Option D} {x : Str} (hc : CallR X (.type T) r) (ok : CallOk X fa r g) (hm : X.mg x = none) (ha : LD X fa W (e :: es) fl) (hv : bootBuiltins x = some (.type T) := by decide +kernel)
    (hg : Gl X x := by rfl) (hn : x ≠ "__name__" := by decide) (hdb : (x == ("__debug__" : Str)) = false := by decide) (he : starEach (e :: es) X.env = (false, eval e X.env) :: starEach es X.env := by rfl) (hpl : (backTo pos (starEach es X.env)).any (·.1) = false := by rfl) :
    ED X fa W (.Call (.Name x p) (e :: es) [] pos) (dFn g fl) := by
  obtain ⟨ta, pa, ka⟩ := ha
  refine ⟨_, pe_callTy hc hg hm hv pa hn hdb he hpl, fun σ F H ρ s Q h1 h2 h3 h => ?_⟩
  refine ka.then Good.tgt h1 h2 h3 h fun x s1 v F1 H1 e1 o1 r1 v1 h' => ?_
  exact ok F1 H1 s1 v x Q e1.fh o1 r1 (Good.lift h')
end
end DL

set_option Elab.async false
set_option linter.all false
set_option maxRecDepth 100000
set_option maxHeartbeats 2000000
/-! The data layer: statements, with lists and dicts that a slot owns. -/
namespace DL
open PySem PySem.Spec PyProof.Rows L2

/-! ### what a slot holds -/
inductive EV where
  | no
  | d (x : D)
  | ol (xs : List D)
  | od (kvs : List (Key × D))
  /-- an instance that is being made -/
  | oi (x : Addr) (cls : Str) (fs : List (Str × D))
abbrev Sts := List EV
def EV.view : EV → Option D
  | .no => none
  | .d x => some x
  | .ol xs => some (.lst xs)
  | .od kvs => some (.dic kvs)
  | .oi _ c fs => some (.ins c fs)
def EV.mask : EV → Option D
  | .d x => some x
  | _ => none
def EV.own : EV → Bool
  | .ol _ => true
  | .od _ => true
  | .oi _ _ _ => true
  | _ => false
/-- frozen -/
def EV.fz : EV → EV
  | .ol xs => .d (.lst xs)
  | .od kvs => .d (.dic kvs)
  | .oi _ c fs => .d (.ins c fs)
  | e => e
def view (ρ : Sts) : Env' := ρ.map EV.view
def mask (ρ : Sts) : Env' := ρ.map EV.mask

def SlotOk (K : PySem.W.Frag) (fa : Option FA) (H0 F H : Hp) (p : Addr) (w : Option V) : EV → Prop
  | .no => True
  | .d x => ∃ v, w = some v ∧ Rep K fa F x v
  | .ol xs => w = some (.ref p) ∧ F p = none ∧ H0 p = none ∧ Nfa fa p ∧ ∃ vs, H p = some (.lst vs) ∧ RepL K fa F xs vs
  | .od kvs => w = some (.ref p) ∧ F p = none ∧ H0 p = none ∧ Nfa fa p ∧ ∃ vs, H p = some (.dK vs) ∧ RepK K fa F kvs vs
  | .oi x cls fs => w = some (.ref p) ∧ F p = none ∧ H0 p = none ∧ Nfa fa p ∧ p = x ∧ ∃ C dx vs, H p = some (.ins C dx vs) ∧ PySem.W.nsIn K mainGlobals cls = some (some (.ref C)) ∧ RepF K fa F fs vs

structure SOk (K : PySem.W.Frag) (fa : Option FA) (B F0 H0 F H : Hp) (A : Nat → Addr) (σ : L2.St) (ρ : Sts) (s : FS) : Prop where
  ext : Ext fa F0 H0 F H
  flr : Same B F
  fd : FeedOk K fa F H s
  len : σ.length = ρ.length
  slot : ∀ i ev, ρ[i]? = some ev → SlotOk K fa H0 F H (A i) (σ[i]?.join) ev
  inj : ∀ i j ev ev', ρ[i]? = some ev → ρ[j]? = some ev' → ev.own = true → ev'.own = true → A i = A j → i = j

section
variable {K : PySem.W.Frag} {fa : Option FA} {B B' F0 H0 F H F' H' : Hp} {A : Nat → Addr} {σ : L2.St} {ρ ρ' : Sts} {s s' : FS}
theorem SlotOk.own_at {p : Addr} {w : Option V} {ev : EV} (h : SlotOk K fa H0 F H p w ev) (ho : ev.own = true) : w = some (.ref p) ∧ F p = none ∧ H0 p = none ∧ Nfa fa p ∧ H p ≠ none := by
  cases ev with
  | ol xs =>
    obtain ⟨a, b, c, d, vs, e, _⟩ := h
    exact ⟨a, b, c, d, by rw [e]; simp⟩
  | od xs =>
    obtain ⟨a, b, c, d, vs, e, _⟩ := h
    exact ⟨a, b, c, d, by rw [e]; simp⟩
  | oi xx cl xs =>
    obtain ⟨a, b, c, d, px, C, dx, vs, e, _⟩ := h
    exact ⟨a, b, c, d, by rw [e]; simp⟩
  | _ => cases ho
theorem SlotOk.own_noTab {p : Addr} {w : Option V} {ev : EV} (h : SlotOk K fa H0 F H p w ev) (ho : ev.own = true) : ∃ u, H p = some u ∧ NoTab u := by
  cases ev with
  | ol xs =>
    obtain ⟨a, b, c, d, vs, e, _⟩ := h
    exact ⟨_, e, noTab_lst _⟩
  | od xs =>
    obtain ⟨a, b, c, d, vs, e, _⟩ := h
    exact ⟨_, e, noTab_dK _⟩
  | oi xx cl xs =>
    obtain ⟨a, b, c, d, px, C, dx, vs, e, _⟩ := h
    exact ⟨_, e, noTab_ins _ _ _⟩
  | _ => cases ho
/-- an expression has run from F, H to F', H' -/
theorem SlotOk.step {p : Addr} {w : Option V} {ev : EV} (h : SlotOk K fa H0 F H p w ev) (e : Ext fa F H F' H') : SlotOk K fa H0 F' H' p w ev := by
  cases ev with
  | no => trivial
  | d x =>
    obtain ⟨v, a, b⟩ := h
    exact ⟨v, a, b.mono e.ff⟩
  | ol xs =>
    obtain ⟨a, b, c, d, vs, g, r⟩ := h
    exact ⟨a, (e.fr p (by rw [g]; simp)).trans b, c, d, vs, e.hh _ _ g d, r.mono e.ff⟩
  | od xs =>
    obtain ⟨a, b, c, d, vs, g, r⟩ := h
    exact ⟨a, (e.fr p (by rw [g]; simp)).trans b, c, d, vs, e.hh _ _ g d, r.mono e.ff⟩
  | oi xx cl xs =>
    obtain ⟨a, b, c, d, px, C, dx, vs, g, n, r⟩ := h
    exact ⟨a, (e.fr p (by rw [g]; simp)).trans b, c, d, px, C, dx, vs, e.hh _ _ g d, n, r.mono e.ff⟩
theorem SOk.step (S : SOk K fa B F0 H0 F H A σ ρ s) (e : Ext fa F H F' H') (fo : FeedOk K fa F' H' s') : SOk K fa B F0 H0 F' H' A σ ρ s' :=
  ⟨S.ext.trans e, S.flr.trans e.ff, fo, S.len, fun i ev h => (S.slot i ev h).step e, S.inj⟩
theorem SOk.base (S : SOk K fa B F0 H0 F H A σ ρ s) (b : Same B' B) : SOk K fa B' F0 H0 F H A σ ρ s := ⟨S.ext, b.trans S.flr, S.fd, S.len, S.slot, S.inj⟩
theorem SOk.floor (S : SOk K fa B F0 H0 F H A σ ρ s) : SOk K fa F F0 H0 F H A σ ρ s := ⟨S.ext, Same.refl _, S.fd, S.len, S.slot, S.inj⟩

/-! ### all that is owned, as if frozen -/
open Classical in
noncomputable def Fp (F H : Hp) (A : Nat → Addr) (ρ : Sts) : Hp := fun b => if ∃ i ev, ρ[i]? = some ev ∧ ev.own = true ∧ A i = b then H b else F b
theorem Fp_own {i : Nat} {ev : EV} (h : ρ[i]? = some ev) (ho : ev.own = true) : Fp F H A ρ (A i) = H (A i) := by
  unfold Fp
  rw [if_pos ⟨i, ev, h, ho, rfl⟩]
theorem Fp_not {b : Addr} (h : ¬ ∃ i ev, ρ[i]? = some ev ∧ ev.own = true ∧ A i = b) : Fp F H A ρ b = F b := by
  unfold Fp
  rw [if_neg h]
theorem SOk.fp (S : SOk K fa B F0 H0 F H A σ ρ s) : Same F (Fp F H A ρ) ∧ Same (Fp F H A ρ) H ∧ FeedOk K fa (Fp F H A ρ) H s ∧ Ext fa F0 H0 (Fp F H A ρ) H := by
  have ff : Same F (Fp F H A ρ) := fun b o e => by
    rw [Fp_not]
    · exact e
    · rintro ⟨i, ev, h, ho, rfl⟩
      rw [((S.slot i ev h).own_at ho).2.1] at e
      cases e
  have fh : Same (Fp F H A ρ) H := fun b o e => by
    by_cases h : ∃ i ev, ρ[i]? = some ev ∧ ev.own = true ∧ A i = b
    · obtain ⟨i, ev, h, ho, rfl⟩ := h
      rw [Fp_own h ho] at e
      exact e
    · rw [Fp_not h] at e
      exact S.ext.fh b o e
  refine ⟨ff, fh, fun φ e => ?_, ⟨S.ext.ff.trans ff, fh, S.ext.hh, fun b e => ?_, S.ext.al⟩⟩
  · obtain ⟨h1, h2, h3, h4⟩ := S.fd φ e
    refine ⟨?_, h2, ⟨h3.1, fun q hq => ?_, h3.2.2⟩, ff _ _ h4⟩
    · rw [Fp_not]
      · exact h1
      · rintro ⟨i, ev, h, ho, q⟩
        exact (((S.slot i ev h).own_at ho).2.2.2.1 φ e).1 q.symm
    · rw [Fp_not]
      · exact h3.2.1 q hq
      · rintro ⟨i, ev, h, ho, z⟩
        exact (((S.slot i ev h).own_at ho).2.2.2.1 φ e).2 q hq z.symm
  · rw [Fp_not]
    · exact S.ext.fr b e
    · rintro ⟨i, ev, h, ho, rfl⟩
      exact e ((S.slot i ev h).own_at ho).2.2.1
/-- a slot, seen in the frozen heap -/
theorem SOk.slotFp (S : SOk K fa B F0 H0 F H A σ ρ s) {i : Nat} {ev : EV} {x : D} (h : ρ[i]? = some ev) (hv : ev.view = some x) : ∃ v, σ[i]?.join = some v ∧ Rep K fa (Fp F H A ρ) x v := by
  have q := S.slot i ev h
  have ff := S.fp.1
  cases ev with
  | no => cases hv
  | d y =>
    cases hv
    obtain ⟨v, a, b⟩ := q
    exact ⟨v, a, b.mono ff⟩
  | ol xs =>
    cases hv
    obtain ⟨a, b, c, d, vs, g, r⟩ := q
    exact ⟨_, a, .lst (by rw [Fp_own h rfl]; exact g) (r.mono ff)⟩
  | od xs =>
    cases hv
    obtain ⟨a, b, c, d, vs, g, r⟩ := q
    exact ⟨_, a, .dic (.inl (by rw [Fp_own h rfl]; exact g)) (r.mono ff)⟩
  | oi xx cl xs =>
    cases hv
    obtain ⟨a, b, c, d, px, C, dx, vs, g, n, r⟩ := q
    exact ⟨_, a, .ins (by rw [Fp_own h rfl]; exact g) n (r.mono ff)⟩
theorem join_some {σ : L2.St} {i : Nat} {v : V} (h : σ[i]?.join = some v) : σ[i]? = some (some v) := by
  cases e : σ[i]? with
  | none => rw [e] at h; cases h
  | some w => rw [e] at h; exact congrArg some h
theorem app_get {α : Type} {l m : List α} {i : Nat} {x : α} (h : l[i]? = some x) : (l ++ m)[i]? = some x := by
  rw [List.getElem?_append_left (List.getElem?_eq_some_iff.mp h).1]
  exact h
/-- the environment of an expression: the slots, what is owned as if frozen (more may lie behind) -/
theorem SOk.view {σ vs : L2.St} {ρ evs : Sts} (S : SOk K fa B F0 H0 F H A (σ ++ vs) (ρ ++ evs) s) (hl : σ.length = ρ.length) : EnvOk K fa (Fp F H A (ρ ++ evs)) σ (DL.view ρ) := ⟨by unfold DL.view; simp [hl], fun i d h => by
  unfold DL.view at h
  rw [List.getElem?_map] at h
  cases e : ρ[i]? with
  | none => rw [e] at h; cases h
  | some ev =>
    rw [e] at h
    have hv : ev.view = some d := Option.some.inj h
    obtain ⟨v, a, r⟩ := S.slotFp (app_get e) hv
    refine ⟨v, ?_, r⟩
    have hi : i < σ.length := by rw [hl]; exact (List.getElem?_eq_some_iff.mp e).1
    rw [List.getElem?_append_left hi] at a
    exact join_some a⟩
theorem SOk.mask {σ vs : L2.St} {ρ evs : Sts} (S : SOk K fa B F0 H0 F H A (σ ++ vs) (ρ ++ evs) s) (hl : σ.length = ρ.length) : EnvOk K fa F σ (DL.mask ρ) := ⟨by unfold DL.mask; simp [hl], fun i d h => by
  unfold DL.mask at h
  rw [List.getElem?_map] at h
  cases e : ρ[i]? with
  | none => rw [e] at h; cases h
  | some ev =>
    rw [e] at h
    have hv : ev.mask = some d := Option.some.inj h
    have q := S.slot i ev (app_get e)
    have hi : i < σ.length := by rw [hl]; exact (List.getElem?_eq_some_iff.mp e).1
    rw [List.getElem?_append_left hi] at q
    cases ev with
    | d y =>
      cases hv
      obtain ⟨v, a, b⟩ := q
      exact ⟨v, join_some a, b⟩
    | _ => cases hv⟩
/-- what an expression over the frozen heap has made is forgotten -/
theorem SOk.back (S : SOk K fa B F0 H0 F H A σ ρ s) (e : Ext fa (Fp F H A ρ) H F' H') (fo : FeedOk K fa F' H' s') : SOk K fa B F0 H0 F H' A σ ρ s' := by
  have hh : Same F H' := fun b o q => e.fh b o (e.ff b o (S.fp.1 b o q))
  have ext : Ext fa F H F H' := ⟨Same.refl _, hh, e.hh, fun _ _ => rfl, e.al⟩
  refine ⟨S.ext.trans ext, S.flr, fun φ q => ?_, S.len, fun i ev h => (S.slot i ev h).step ext, S.inj⟩
  obtain ⟨h1, h2, h3, h4⟩ := S.fd φ q
  obtain ⟨g1, g2, g3, g4⟩ := fo φ q
  exact ⟨h1, g2, ⟨g3.1, h3.2.1, g3.2.2⟩, h4⟩

/-! ### the stack of values -/
theorem SlotOk.any {p q : Addr} {w : Option V} {ev : EV} (h : SlotOk K fa H0 F H p w ev) (n : ev.own = false) : SlotOk K fa H0 F H q w ev := by
  cases ev with
  | no => trivial
  | d x => exact h
  | ol xs => cases n
  | od xs => cases n
  | oi xx cl xs => cases n
theorem SOk.push (S : SOk K fa B F0 H0 F H A σ ρ s) {x : D} {w : V} (r : Rep K fa F x w) : SOk K fa B F0 H0 F H A (σ ++ [some w]) (ρ ++ [.d x]) s := by
  refine ⟨S.ext, S.flr, S.fd, by simp [S.len], fun i ev h => ?_, fun i j ev ev' h h' ho ho' e => ?_⟩
  · by_cases hi : i < ρ.length
    · rw [List.getElem?_append_left hi] at h
      rw [List.getElem?_append_left (by rw [S.len]; exact hi)]
      exact S.slot i ev h
    · rw [List.getElem?_append_right (by omega)] at h
      have h0 : i - ρ.length = 0 := by
        have := (List.getElem?_eq_some_iff.mp h).1
        simp at this
        omega
      rw [h0] at h
      cases h
      rw [List.getElem?_append_right (by rw [S.len]; omega), S.len, h0]
      exact ⟨w, rfl, r⟩
  · have low : ∀ {k : Nat} {e : EV}, (ρ ++ [.d x])[k]? = some e → e.own = true → ρ[k]? = some e := fun {k e} hk ho => by
      by_cases hi : k < ρ.length
      · rw [List.getElem?_append_left hi] at hk
        exact hk
      · rw [List.getElem?_append_right (by omega)] at hk
        have h0 : k - ρ.length = 0 := by
          have := (List.getElem?_eq_some_iff.mp hk).1
          simp at this
          omega
        rw [h0] at hk
        cases hk
        cases ho
    exact S.inj i j ev ev' (low h ho) (low h' ho') ho ho' e
/-- a new object that is owned, on the stack -/
theorem SOk.pushO (S : SOk K fa B F0 H0 F H A σ ρ s) {ev : EV} {p : Addr} (np : ∀ i ev', ρ[i]? = some ev' → ev'.own = true → A i ≠ p) (r : SlotOk K fa H0 F H p (some (.ref p)) ev) :
    SOk K fa B F0 H0 F H (fun i => if i = ρ.length then p else A i) (σ ++ [some (.ref p)]) (ρ ++ [ev]) s := by
  have low : ∀ {k : Nat} {e : EV}, (ρ ++ [ev])[k]? = some e → (ρ[k]? = some e ∧ k ≠ ρ.length) ∨ (k = ρ.length ∧ e = ev) := fun {k e} hk => by
    by_cases hi : k < ρ.length
    · rw [List.getElem?_append_left hi] at hk
      exact .inl ⟨hk, by omega⟩
    · rw [List.getElem?_append_right (by omega)] at hk
      have h0 : k - ρ.length = 0 := by
        have := (List.getElem?_eq_some_iff.mp hk).1
        simp at this
        omega
      rw [h0] at hk
      cases hk
      exact .inr ⟨by omega, rfl⟩
  refine ⟨S.ext, S.flr, S.fd, by simp [S.len], fun i e h => ?_, fun i j e e' h h' ho ho' q => ?_⟩
  · rcases low h with ⟨h, hn⟩ | ⟨rfl, rfl⟩
    · rw [if_neg hn, List.getElem?_append_left (by rw [S.len]; exact (List.getElem?_eq_some_iff.mp h).1)]
      exact S.slot i e h
    · rw [if_pos rfl, List.getElem?_append_right (by rw [S.len]; omega), S.len, Nat.sub_self]
      exact r
  · rcases low h with ⟨g1, hn⟩ | ⟨hi, he⟩
    · rcases low h' with ⟨g2, hn'⟩ | ⟨hj, he'⟩
      · rw [if_neg hn, if_neg hn'] at q
        exact S.inj i j e e' g1 g2 ho ho' q
      · rw [if_neg hn, if_pos hj] at q
        exact absurd q (np i e g1 ho)
    · rcases low h' with ⟨g2, hn'⟩ | ⟨hj, he'⟩
      · rw [if_pos hi, if_neg hn'] at q
        exact absurd q.symm (np j e' g2 ho')
      · rw [hi, hj]
/-- the top of the stack goes to slot i -/
theorem SOk.pop {ev : EV} {w : V} (S : SOk K fa B F0 H0 F H A (σ ++ [some w]) (ρ ++ [ev]) s) (hl : σ.length = ρ.length) (i : Nat) : SOk K fa B F0 H0 F H (fun j => if j = i then A ρ.length else A j) (σ.set i (some w)) (ρ.set i ev) s := by
  have top : (ρ ++ [ev])[ρ.length]? = some ev := by simp
  have rt := S.slot _ _ top
  have et : (σ ++ [some w])[ρ.length]?.join = some w := by
    rw [← hl]
    simp
  rw [et] at rt
  have low : ∀ {k : Nat} {e : EV}, (ρ.set i ev)[k]? = some e → (k = i ∧ e = ev ∧ i < ρ.length) ∨ (k ≠ i ∧ ρ[k]? = some e ∧ k < ρ.length) := fun {k e} hk => by
    by_cases hi : i = k
    · subst hi
      by_cases hlt : i < ρ.length
      · rw [List.getElem?_set_self hlt] at hk
        cases hk
        exact .inl ⟨rfl, rfl, hlt⟩
      · rw [List.getElem?_eq_none (by simpa using hlt)] at hk
        cases hk
    · rw [List.getElem?_set_ne hi] at hk
      exact .inr ⟨Ne.symm hi, hk, (List.getElem?_eq_some_iff.mp hk).1⟩
  refine ⟨S.ext, S.flr, S.fd, by simp [hl], fun k e h => ?_, fun k j e e' h h' ho ho' q => ?_⟩
  · rcases low h with ⟨rfl, rfl, hlt⟩ | ⟨hn, h, hlt⟩
    · rw [if_pos rfl, List.getElem?_set_self (by omega)]
      exact rt
    · rw [if_neg hn, List.getElem?_set_ne (Ne.symm hn)]
      have z := S.slot k e (app_get h)
      rw [List.getElem?_append_left (by omega)] at z
      exact z
  · rcases low h with ⟨hk, he, hlt⟩ | ⟨hn, g1, hlt⟩
    · rcases low h' with ⟨hj, he', hlt'⟩ | ⟨hn', g2, hlt'⟩
      · rw [hk, hj]
      · rw [if_pos hk, if_neg hn'] at q
        have := S.inj ρ.length j _ _ top (app_get g2) (he ▸ ho) ho' q
        omega
    · rcases low h' with ⟨hj, he', hlt'⟩ | ⟨hn', g2, hlt'⟩
      · rw [if_neg hn, if_pos hj] at q
        have := S.inj k ρ.length _ _ (app_get g1) top ho (he' ▸ ho') q
        omega
      · rw [if_neg hn, if_neg hn'] at q
        exact S.inj k j _ _ (app_get g1) (app_get g2) ho ho' q
/-- the top of the stack is dropped -/
theorem SOk.drop {ev : EV} {w : Option V} (S : SOk K fa B F0 H0 F H A (σ ++ [w]) (ρ ++ [ev]) s) (hl : σ.length = ρ.length) : SOk K fa B F0 H0 F H A σ ρ s := by
  refine ⟨S.ext, S.flr, S.fd, hl, fun i e h => ?_, fun i j e e' h h' => S.inj i j e e' (app_get h) (app_get h')⟩
  have z := S.slot i e (app_get h)
  rw [List.getElem?_append_left (by rw [hl]; exact (List.getElem?_eq_some_iff.mp h).1)] at z
  exact z
/-- an owned object at slot i gets new content -/
theorem SOk.write (S : SOk K fa B F0 H0 F H A σ ρ s) {i : Nat} {ev ev' : EV} {o : HO} (h : ρ[i]? = some ev) (ho : ev.own = true) (ho' : ev'.own = true) (r : SlotOk K fa H0 F (upd H (A i) o) (A i) (some (.ref (A i))) ev') :
    SOk K fa B F0 H0 F (upd H (A i) o) A σ (ρ.set i ev') s := by
  obtain ⟨w0, f0, g0, n0, q0⟩ := (S.slot i ev h).own_at ho
  have hi : i < ρ.length := (List.getElem?_eq_some_iff.mp h).1
  have ne : ∀ b u, F b = some u → b ≠ A i := fun b u e z => by rw [z, f0] at e; cases e
  refine ⟨⟨S.ext.ff, fun b u e => by rw [upd_ne (ne b u e)]; exact S.ext.fh b u e, fun b u e n => ?_, S.ext.fr, fun b e => ?_⟩, S.flr, fun φ e => ?_, by simp [S.len], fun j e hj => ?_, fun j k e e' hj hk hoj hok q => ?_⟩
  · have : b ≠ A i := fun z => by rw [z, g0] at e; cases e
    rw [upd_ne this]
    exact S.ext.hh b u e n
  · by_cases hb : b = A i
    · subst hb; rw [upd_same]; simp
    · rw [upd_ne hb]; exact S.ext.al b e
  · obtain ⟨h1, h2, h3, h4⟩ := S.fd φ e
    refine ⟨h1, h2, ?_, h4⟩
    obtain ⟨u, eu, nu⟩ := (S.slot i ev h).own_noTab ho
    rw [upd_ne (n0 φ e).1]
    exact ⟨h3.1, h3.2.upd eu nu⟩
  · by_cases hji : i = j
    · subst hji
      rw [List.getElem?_set_self hi] at hj
      cases hj
      rw [w0]
      exact r
    · rw [List.getElem?_set_ne hji] at hj
      have z := S.slot j e hj
      have na : e.own = true → A j ≠ A i := fun hoj q => hji (S.inj i j ev e h hj ho hoj q.symm)
      cases e with
      | no => trivial
      | d x => exact z
      | ol xs =>
        obtain ⟨a, b, c, d, vs, g, rr⟩ := z
        exact ⟨a, b, c, d, vs, by rw [upd_ne (na rfl)]; exact g, rr⟩
      | od xs =>
        obtain ⟨a, b, c, d, vs, g, rr⟩ := z
        exact ⟨a, b, c, d, vs, by rw [upd_ne (na rfl)]; exact g, rr⟩
      | oi xx cl xs =>
        obtain ⟨a, b, c, d, px, C, dx, vs, g, n, rr⟩ := z
        exact ⟨a, b, c, d, px, C, dx, vs, by rw [upd_ne (na rfl)]; exact g, n, rr⟩
  · have low : ∀ {m : Nat} {u : EV}, (ρ.set i ev')[m]? = some u → u.own = true → ∃ u', ρ[m]? = some u' ∧ u'.own = true := fun {m u} hm hu => by
      by_cases hmi : i = m
      · subst hmi
        exact ⟨ev, h, ho⟩
      · rw [List.getElem?_set_ne hmi] at hm
        exact ⟨u, hm, hu⟩
    obtain ⟨u, hu, ou⟩ := low hj hoj
    obtain ⟨u', hu', ou'⟩ := low hk hok
    exact S.inj j k u u' hu hu' ou ou' q
/-- slot i is frozen for good -/
theorem SOk.freeze (S : SOk K fa B F0 H0 F H A σ ρ s) {i : Nat} {ev : EV} (h : ρ[i]? = some ev) : ∃ F', SOk K fa B F0 H0 F' H A σ (ρ.set i ev.fz) s := by
  by_cases ho : ev.own = true
  · obtain ⟨w0, f0, g0, n0, q0⟩ := (S.slot i ev h).own_at ho
    have hi : i < ρ.length := (List.getElem?_eq_some_iff.mp h).1
    cases eo : H (A i) with
    | none => exact absurd eo q0
    | some o =>
      have ff : Same F (upd F (A i) o) := fun b u e => by
        rw [upd_ne (ne_of_none e f0)]; exact e
      refine ⟨upd F (A i) o, ⟨S.ext.ff.trans ff, fun b u e => ?_, S.ext.hh, fun b e => ?_, S.ext.al⟩, S.flr.trans ff, fun φ e => ?_, by simp [S.len], fun j e hj => ?_, fun j k e e' hj hk hoj hok q => ?_⟩
      · by_cases hb : b = A i
        · subst hb; rw [upd_same] at e; rw [eo]; exact e
        · rw [upd_ne hb] at e; exact S.ext.fh b u e
      · have : b ≠ A i := fun z => e (z ▸ g0)
        rw [upd_ne this]; exact S.ext.fr b e
      · obtain ⟨h1, h2, h3, h4⟩ := S.fd φ e
        exact ⟨by rw [upd_ne (n0 φ e).1]; exact h1, h2, ⟨h3.1, fun q hq => by rw [upd_ne ((n0 φ e).2 q hq)]; exact h3.2.1 q hq, h3.2.2⟩, ff _ _ h4⟩
      · by_cases hji : i = j
        · subst hji
          rw [List.getElem?_set_self hi] at hj
          cases hj
          rw [w0]
          have z := S.slot i ev h
          cases ev with
          | ol xs =>
            obtain ⟨a, b, c, d, vs, g, rr⟩ := z
            rw [eo] at g
            cases g
            exact ⟨_, rfl, .lst upd_same (rr.mono ff)⟩
          | od xs =>
            obtain ⟨a, b, c, d, vs, g, rr⟩ := z
            rw [eo] at g
            cases g
            exact ⟨_, rfl, .dic (.inl upd_same) (rr.mono ff)⟩
          | oi xx cl xs =>
            obtain ⟨a, b, c, d, px, C, dx, vs, g, n, rr⟩ := z
            rw [eo] at g
            cases g
            exact ⟨_, rfl, .ins upd_same n (rr.mono ff)⟩
          | _ => cases ho
        · rw [List.getElem?_set_ne hji] at hj
          have z := S.slot j e hj
          have na : e.own = true → A j ≠ A i := fun hoj q => hji (S.inj i j ev e h hj ho hoj q.symm)
          cases e with
          | no => trivial
          | d x =>
            obtain ⟨v, a, b⟩ := z
            exact ⟨v, a, b.mono ff⟩
          | ol xs =>
            obtain ⟨a, b, c, d, vs, g, rr⟩ := z
            exact ⟨a, by rw [upd_ne (na rfl)]; exact b, c, d, vs, g, rr.mono ff⟩
          | od xs =>
            obtain ⟨a, b, c, d, vs, g, rr⟩ := z
            exact ⟨a, by rw [upd_ne (na rfl)]; exact b, c, d, vs, g, rr.mono ff⟩
          | oi xx cl xs =>
            obtain ⟨a, b, c, d, px, C, dx, vs, g, n, rr⟩ := z
            exact ⟨a, by rw [upd_ne (na rfl)]; exact b, c, d, px, C, dx, vs, g, n, rr.mono ff⟩
      · have low : ∀ {m : Nat} {u : EV}, (ρ.set i ev.fz)[m]? = some u → u.own = true → ρ[m]? = some u := fun {m u} hm hu => by
          by_cases hmi : i = m
          · subst hmi
            rw [List.getElem?_set_self hi] at hm
            cases hm
            cases ev <;> cases hu
          · rw [List.getElem?_set_ne hmi] at hm
            exact hm
        exact S.inj j k e e' (low hj hoj) (low hk hok) hoj hok q
  · have e : ev.fz = ev := by
      cases ev <;> first | rfl | exact absurd rfl ho
    have er : ρ.set i ev.fz = ρ := by
      rw [e]
      exact List.ext_getElem? fun j => by
        by_cases hj : i = j
        · subst hj
          rw [List.getElem?_set_self (List.getElem?_eq_some_iff.mp h).1, h]
        · rw [List.getElem?_set_ne hj]
    rw [er]
    exact ⟨F, S⟩
end
end DL

set_option Elab.async false
set_option linter.all false
set_option maxRecDepth 100000
set_option maxHeartbeats 2000000
/-! The data layer: values at statements, statements. -/
namespace DL
open PySem PySem.Spec PyProof.Rows L2

/-! ### values -/
def GoodV (X : Cx) (fa : Option FA) (W : XK) (B F0 H0 : Hp) (σ vs : L2.St) (evs : Sts) (r : Res (EV × Sts)) (Q : VK) : Prop :=
  match r with
  | .bad => False
  | .ok p s' => ∀ w F' H' A', SOk X.K fa B F0 H0 F' H' A' (σ ++ vs ++ [some w]) (p.2 ++ evs ++ [p.1]) s' → Q w H'
  | .err e s' => ∀ cls dd F' H', Ext fa F0 H0 F' H' → FeedOk X.K fa F' H' s' → RepX X.K X.mg fa F' H' e cls dd → W cls dd H'
def VOk (X : Cx) (fa : Option FA) (W : XK) (t : TE) (f : Sts → M (EV × Sts)) : Prop :=
  ∀ (B F0 H0 F H : Hp) (A : Nat → Addr) (σ vs : L2.St) (ρ evs : Sts) (s : FS) (Q : VK), σ.length = ρ.length → SOk X.K fa B F0 H0 F H A (σ ++ vs) (ρ ++ evs) s → GoodV X fa W B F0 H0 σ vs evs (f ρ s) Q → t σ H Q
/-- AN EXPRESSION AT A STATEMENT: what it gives (data, or a new list that is then owned), and what it leaves of the slots -/
def VJ (X : Cx) (fa : Option FA) (W : XK) (e : Expr) (f : Sts → M (EV × Sts)) : Prop := ∃ t, PE X e t ∧ VOk X fa W t f

def scalD : D → Option D
  | .non => some .non
  | .bl b => some (.bl b)
  | .int i => some (.int i)
  | .str x => some (.str x)
  | _ => none
def vMask (f : Env' → M D) : Sts → M (EV × Sts) := fun ρ => (f (mask ρ)).bind fun x => M.pure (.d x, ρ)
def vView (f : Env' → M D) : Sts → M (EV × Sts) := fun ρ => (f (view ρ)).bind fun x => (M.lift (scalD x)).bind fun x => M.pure (.d x, ρ)
def vNew (f : Env' → M (List D)) : Sts → M (EV × Sts) := fun ρ => (f (mask ρ)).bind fun xs => M.pure (.ol xs, ρ)

/-- a new list -/
def GoodN (X : Cx) (fa : Option FA) (W : XK) (F H : Hp) (r : Res (List D)) (Q : VK) : Prop :=
  match r with
  | .bad => False
  | .ok xs s' => ∀ p vs F' H', Ext fa F H F' H' → FeedOk X.K fa F' H' s' → H p = none → F' p = none → H' p = some (.lst vs) → RepL X.K fa F' xs vs → Q (.ref p) H'
  | .err e s' => ∀ cls dd F' H', Ext fa F H F' H' → FeedOk X.K fa F' H' s' → RepX X.K X.mg fa F' H' e cls dd → W cls dd H'
def NOk (X : Cx) (fa : Option FA) (W : L2.St → XK) (t : TE) (f : Env' → M (List D)) : Prop :=
  ∀ (σ : L2.St) (F H : Hp) (ρ : Env') (s : FS) (Q : VK), Same F H → FeedOk X.K fa F H s → EnvOk X.K fa F σ ρ → GoodN X fa (W σ) F H (f ρ s) Q → t σ H Q
/-- AN EXPRESSION THAT GIVES A NEW LIST -/
def ND (X : Cx) (fa : Option FA) (W : L2.St → XK) (e : Expr) (f : Env' → M (List D)) : Prop := ∃ t, PE X e t ∧ NOk X fa W t f

section
variable {X : Cx} {fa : Option FA} {W : XK} {Wσ : L2.St → XK} {a b c e o : Expr} {es rest : List Expr} {pos p apos : Pos} {F H F' H' : Hp}
theorem GoodN.tgt {Q : VK} : Tgt X fa W (fun F H (r : Res (List D)) => GoodN X fa W F H r Q) := by
  refine ⟨fun _ _ h => h, fun _ _ _ _ h => h, fun F H F' H' r e h => ?_⟩
  cases r with
  | bad => exact h
  | ok d s => exact fun p vs F2 H2 e2 o2 hp fp hq r => h p vs F2 H2 (e.trans e2) o2 (by
      cases q : H p with
      | none => rfl
      | some u => exact absurd hp (e.al p (by rw [q]; simp))) fp hq r
  | err x s => exact fun c dd F2 H2 e2 => h c dd F2 H2 (e.trans e2)
/-- frozen at once, it is data -/
theorem NOk.tok {t : TE} {f : Env' → M (List D)} (h : NOk X fa Wσ t f) : TOk X fa Wσ t (fun ρ => (f ρ).bind fun xs => M.pure (.lst xs)) := by
  intro σ F H ρ s Q h1 h2 h3 hg
  refine h σ F H ρ s Q h1 h2 h3 ?_
  change Good X fa (Wσ σ) F H ((f ρ s).bnd _) Q at hg
  generalize f ρ s = r at hg
  cases r with
  | bad => exact hg
  | err e s' => exact hg
  | ok xs s' =>
    intro p vs F' H' e fo hp fp hq r
    have ff : Same F' (upd F' p (.lst vs)) := fun b u z => by rw [upd_ne (ne_of_none z fp)]; exact z
    refine hg (.ref p) (upd F' p (.lst vs)) H' ⟨e.ff.trans ff, fun b u z => ?_, e.hh, fun b z => ?_, e.al⟩ (fun φ z => ?_) (.lst upd_same (r.mono ff))
    · by_cases hb : b = p
      · subst hb; rw [upd_same] at z; rw [hq]; exact z
      · rw [upd_ne hb] at z; exact e.fh b u z
    · have : b ≠ p := fun q => z (q ▸ hp)
      rw [upd_ne this]; exact e.fr b z
    · obtain ⟨g1, g2, g3, g4⟩ := fo φ z
      obtain ⟨k1, k2, k3, k4⟩ := h2 φ z
      have n0 := nfa_fresh h2 hp φ z
      exact ⟨by rw [upd_ne n0.1]; exact g1, g2, ⟨g3.1, fun q hq => by rw [upd_ne (n0.2 q hq)]; exact g3.2.1 q hq, g3.2.2⟩, ff _ _ g4⟩
theorem ND.ed {f : Env' → M (List D)} (h : ND X fa Wσ e f) : ED X fa Wσ e (fun ρ => (f ρ).bind fun xs => M.pure (.lst xs)) := by
  obtain ⟨t, p, k⟩ := h
  exact ⟨t, p, k.tok⟩
def mkN (xs : List D) : Option (List D) := if xs.length ≤ sizeLine then some xs else none
/-- [e, ..], new -/
theorem nd_lst {fl : Env' → M (List D)} (ha : LD X fa Wσ es fl) : ND X fa Wσ (.List es pos) (fun ρ => (fl ρ).bind fun xs => M.lift (mkN xs)) := by
  obtain ⟨ta, pa, ka⟩ := ha
  refine ⟨_, pe_lst pa, fun σ F H ρ s Q h1 h2 h3 h => ?_⟩
  refine ka.then GoodN.tgt h1 h2 h3 h fun x s1 v F1 H1 e1 o1 r1 v1 h' => ?_
  by_cases hl : x.length ≤ sizeLine
  · rw [show mkN x = some x from if_pos hl] at h'
    refine ⟨by rw [← r1.length]; exact hl, fun p hp => ?_⟩
    have fp : F1 p = none := Same.free e1.fh hp
    refine h' p v F1 (upd H1 p (.lst v)) ⟨Same.refl _, fun b u z => ?_, fun b u z _ => ?_, fun _ _ => rfl, fun b z => ?_⟩ (o1.ext_same (Same.refl _) (fun b u z => by rw [upd_ne (ne_of_none z hp)]; exact z) fun _ _ => rfl) hp fp upd_same r1
    · rw [upd_ne (ne_of_none z fp)]; exact e1.fh b u z
    · rw [upd_ne (ne_of_none z hp)]; exact z
    · have : b ≠ p := fun q => z (q ▸ hp)
      rw [upd_ne this]; exact z
  · rw [show mkN x = none from if_neg hl] at h'
    exact h'.elim

theorem vok_mask {t : TE} {f : Env' → M D} (h : TOk X fa (fun _ => W) t f) : VOk X fa W t (vMask f) := by
  intro B F0 H0 F H A σ vs ρ evs s Q hl S hg
  refine h σ F H (mask ρ) s Q S.ext.fh S.fd (S.mask hl) ?_
  change GoodV X fa W B F0 H0 σ vs evs ((f (mask ρ) s).bnd _) Q at hg
  generalize f (mask ρ) s = r at hg
  cases r with
  | bad => exact hg
  | err e s' => exact fun cls dd F' H' e fo rx => hg cls dd F' H' (S.ext.trans e) fo rx
  | ok x s' => exact fun v F' H' e fo r => hg v F' H' A ((S.step e fo).push r)
theorem vj_mask {f : Env' → M D} (h : ED X fa (fun _ => W) e f) : VJ X fa W e (vMask f) := by
  obtain ⟨t, p, k⟩ := h
  exact ⟨t, p, vok_mask k⟩
theorem scal_rep {K : PySem.W.Frag} {fa : Option FA} {F F' : Hp} {x y : D} {v : V} (h : scalD x = some y) (r : Rep K fa F x v) : Rep K fa F' y v := by
  cases r <;> cases h <;> constructor
theorem vok_view {t : TE} {f : Env' → M D} (h : TOk X fa (fun _ => W) t f) : VOk X fa W t (vView f) := by
  intro B F0 H0 F H A σ vs ρ evs s Q hl S hg
  obtain ⟨ff, fh, fo0, ex0⟩ := S.fp
  refine h σ (Fp F H A (ρ ++ evs)) H (view ρ) s Q fh fo0 (S.view hl) ?_
  change GoodV X fa W B F0 H0 σ vs evs ((f (view ρ) s).bnd _) Q at hg
  generalize f (view ρ) s = r at hg
  cases r with
  | bad => exact hg
  | err e s' => exact fun cls dd F' H' e fo rx => hg cls dd F' H' (ex0.trans e) fo rx
  | ok x s' =>
    intro v F' H' e fo r
    change GoodV X fa W B F0 H0 σ vs evs ((M.lift (scalD x) s').bnd _) Q at hg
    cases q : scalD x with
    | none => rw [q] at hg; exact hg.elim
    | some y =>
      rw [q] at hg
      exact hg v F H' A ((S.back e fo).push (scal_rep q r))
theorem vj_view {f : Env' → M D} (h : ED X fa (fun _ => W) e f) : VJ X fa W e (vView f) := by
  obtain ⟨t, p, k⟩ := h
  exact ⟨t, p, vok_view k⟩
theorem vok_new {t : TE} {f : Env' → M (List D)} (h : NOk X fa (fun _ => W) t f) : VOk X fa W t (vNew f) := by
  intro B F0 H0 F H A σ vs ρ evs s Q hl S hg
  refine h σ F H (mask ρ) s Q S.ext.fh S.fd (S.mask hl) ?_
  change GoodV X fa W B F0 H0 σ vs evs ((f (mask ρ) s).bnd _) Q at hg
  generalize f (mask ρ) s = r at hg
  cases r with
  | bad => exact hg
  | err e s' => exact fun cls dd F' H' e fo rx => hg cls dd F' H' (S.ext.trans e) fo rx
  | ok xs s' =>
    intro p vs' F' H' e fo hp fp hq r
    have S1 := S.step e fo
    have h0 : H0 p = none := by
      cases z : H0 p with
      | none => rfl
      | some u => exact absurd hp (S.ext.al p (by rw [z]; simp))
    refine hg (.ref p) F' H' _ (S1.pushO (ev := .ol xs) (p := p) (fun i ev' hi ho q => ?_) ⟨rfl, fp, h0, nfa_fresh S.fd hp, vs', hq, r⟩)
    exact ((S.slot i ev' hi).own_at ho).2.2.2.2 (q ▸ hp)
theorem vj_new {f : Env' → M (List D)} (h : ND X fa (fun _ => W) e f) : VJ X fa W e (vNew f) := by
  obtain ⟨t, p, k⟩ := h
  exact ⟨t, p, vok_new k⟩
def vNewD : Sts → M (EV × Sts) := fun ρ => M.pure (.od [], ρ)
/-- {}, owned -/
theorem vj_dict : VJ X fa W (.Dict [] [] pos) vNewD := by
  refine ⟨_, pe_dnewK, fun B F0 H0 F H A σ vs ρ evs s Q hl S hg p hp => ?_⟩
  have fp : F p = none := Same.free S.ext.fh hp
  have h0 : H0 p = none := by
    cases z : H0 p with
    | none => rfl
    | some u => exact absurd hp (S.ext.al p (by rw [z]; simp))
  have ex : Ext fa F H F (upd H p (.dK [])) := ⟨Same.refl _, fun b u z => by rw [upd_ne (ne_of_none z fp)]; exact S.ext.fh b u z, fun b u z _ => by rw [upd_ne (ne_of_none z hp)]; exact z, fun _ _ => rfl, fun b z => by
    have : b ≠ p := fun q => z (q ▸ hp)
    rw [upd_ne this]; exact z⟩
  have S1 := S.step ex (S.fd.ext_same (Same.refl _) (fun b u z => by rw [upd_ne (ne_of_none z hp)]; exact z) fun _ _ => rfl)
  refine hg (.ref p) F _ _ (S1.pushO (ev := .od []) (p := p) (fun i ev' hi ho q => ?_) ⟨rfl, fp, h0, nfa_fresh S.fd hp, [], upd_same, .nil⟩)
  exact ((S.slot i ev' hi).own_at ho).2.2.2.2 (q ▸ hp)

/-! ### what is wanted at a statement -/
/-- as Tgt, for statements' values -/
structure TgtV (X : Cx) (fa : Option FA) (W : XK) (F0 H0 : Hp) {β : Type} (G : Res β → Prop) : Prop where
  bad : ¬ G .bad
  err : ∀ e s, G (.err e s) → ∀ cls dd F' H', Ext fa F0 H0 F' H' → FeedOk X.K fa F' H' s → RepX X.K X.mg fa F' H' e cls dd → W cls dd H'
theorem GoodV.tgt {B F0 H0 : Hp} {σ vs : L2.St} {evs : Sts} {Q : VK} : TgtV X fa W F0 H0 (fun r => GoodV X fa W B F0 H0 σ vs evs r Q) := ⟨fun h => h, fun _ _ h => h⟩
/-- run the value, then the rest -/
theorem VOk.then {t : TE} {f : Sts → M (EV × Sts)} {β : Type} {g : EV × Sts → M β} {G : Res β → Prop} {B F0 H0 F H : Hp} {A : Nat → Addr} {σ vs : L2.St} {ρ evs : Sts} {s : FS} {Q : VK} (h : VOk X fa W t f) (T : TgtV X fa W F0 H0 G) (hl : σ.length = ρ.length)
    (S : SOk X.K fa B F0 H0 F H A (σ ++ vs) (ρ ++ evs) s) (hg : G ((f ρ s).bnd g))
    (k : ∀ ev ρ' s' w F' H' A', SOk X.K fa B F0 H0 F' H' A' (σ ++ vs ++ [some w]) (ρ' ++ evs ++ [ev]) s' → σ.length = ρ'.length → G (g (ev, ρ') s') → Q w H') : t σ H Q := by
  refine h B F0 H0 F H A σ vs ρ evs s Q hl S ?_
  generalize f ρ s = r at hg
  cases r with
  | bad => exact absurd hg T.bad
  | err e s' => exact T.err e s' hg
  | ok q s' =>
    intro w F' H' A' S'
    have l1 := S'.len
    have l2 := S.len
    simp only [List.length_append, List.length_singleton] at l1 l2
    exact k q.1 q.2 s' w F' H' A' S' (by omega) hg
end

/-! ### statements -/
inductive Fl where
  | nx
  | rt (d : D)
  | bk
  | ct
def GoodS (X : Cx) (fa : Option FA) (W : XK) (B F0 H0 : Hp) (r : Res (Fl × Sts)) (Dn : Ends) : Prop :=
  match r with
  | .bad => False
  | .ok p s' =>
    match p.1 with
    | .nx => ∀ σ' F' H' A', SOk X.K fa B F0 H0 F' H' A' σ' p.2 s' → Dn.nx σ' H'
    | .bk => ∀ σ' F' H' A', SOk X.K fa B F0 H0 F' H' A' σ' p.2 s' → Dn.bk σ' H'
    | .ct => ∀ σ' F' H' A', SOk X.K fa B F0 H0 F' H' A' σ' p.2 s' → Dn.ct σ' H'
    | .rt d => ∀ v F' H', Ext fa F0 H0 F' H' → FeedOk X.K fa F' H' s' → Rep X.K fa F' d v → (∃ F2 A2 σ2, SOk X.K fa B F0 H0 F2 H' A2 σ2 p.2 s') → Dn.rt v H'
  | .err e s' => ∀ cls dd F' H', Ext fa F0 H0 F' H' → FeedOk X.K fa F' H' s' → RepX X.K X.mg fa F' H' e cls dd → W cls dd H'
def SOkT (X : Cx) (fa : Option FA) (W : XK) (t : TS) (g : Sts → M (Fl × Sts)) : Prop :=
  ∀ (B F0 H0 F H : Hp) (A : Nat → Addr) (σ : L2.St) (ρ : Sts) (s : FS) (Dn : Ends), SOk X.K fa B F0 H0 F H A σ ρ s → GoodS X fa W B F0 H0 (g ρ s) Dn → t Dn σ H
/-- A STATEMENT DOES g -/
def SJ (X : Cx) (fa : Option FA) (W : XK) (st : Stmt) (g : Sts → M (Fl × Sts)) : Prop := ∃ t, PS X st t ∧ SOkT X fa W t g
def SSJ (X : Cx) (fa : Option FA) (W : XK) (st : List Stmt) (g : Sts → M (Fl × Sts)) : Prop := ∃ t, PSs X st t ∧ SOkT X fa W t g

def gNext : Sts → M (Fl × Sts) := fun ρ => M.pure (.nx, ρ)
def gSeq (g g' : Sts → M (Fl × Sts)) : Sts → M (Fl × Sts) := fun ρ => (g ρ).bind fun p => match p.1 with
  | .nx => g' p.2
  | _ => M.pure p
def gSet (i : Nat) (f : Sts → M (EV × Sts)) : Sts → M (Fl × Sts) := fun ρ => (f ρ).bind fun p => M.pure (.nx, p.2.set i p.1)
def gDrop (f : Sts → M (EV × Sts)) : Sts → M (Fl × Sts) := fun ρ => (f ρ).bind fun p => M.pure (.nx, p.2)
def gIf (c : Env' → M Bool) (g g' : Sts → M (Fl × Sts)) : Sts → M (Fl × Sts) := fun ρ => (c (view ρ)).bind fun k => if k = true then g ρ else g' ρ
def gRet (f : Env' → M D) : Sts → M (Fl × Sts) := fun ρ => (f (view ρ)).bind fun x => M.pure (.rt x, ρ)
def gRetN : Sts → M (Fl × Sts) := fun ρ => M.pure (.rt .non, ρ)
def gBreak : Sts → M (Fl × Sts) := fun ρ => M.pure (.bk, ρ)
def gCont : Sts → M (Fl × Sts) := fun ρ => M.pure (.ct, ρ)
def frz (i : Nat) (ρ : Sts) : Sts := match ρ[i]? with
  | some ev => ρ.set i ev.fz
  | none => ρ
def gFrz (i : Nat) (g : Sts → M (Fl × Sts)) : Sts → M (Fl × Sts) := fun ρ => g (frz i ρ)

section
variable {X : Cx} {fa : Option FA} {W : XK} {a b c e o : Expr} {es rest : List Expr} {pos p apos : Pos} {st : Stmt} {sts sts' : List Stmt} {g g' : Sts → M (Fl × Sts)} {f : Sts → M (EV × Sts)} {B B' F0 H0 : Hp} {Dn : Ends}
theorem GoodS.tgt : TgtV X fa W F0 H0 (fun r => GoodS X fa W B F0 H0 r Dn) := ⟨fun h => h, fun _ _ h => h⟩
theorem GoodS.base (b : Same B B') {r : Res (Fl × Sts)} (h : GoodS X fa W B F0 H0 r Dn) : GoodS X fa W B' F0 H0 r Dn := by
  cases r with
  | bad => exact h
  | err e s => exact h
  | ok q s =>
    obtain ⟨fl, ρ⟩ := q
    cases fl with
    | nx => exact fun σ' F' H' A' S => h σ' F' H' A' (S.base b)
    | bk => exact fun σ' F' H' A' S => h σ' F' H' A' (S.base b)
    | ct => exact fun σ' F' H' A' S => h σ' F' H' A' (S.base b)
    | rt d => exact fun v F' H' e fo r ⟨F2, A2, σ2, S⟩ => h v F' H' e fo r ⟨F2, A2, σ2, S.base b⟩
theorem ssj_nil : SSJ X fa W [] gNext := ⟨_, pss_nil, fun B F0 H0 F H A σ ρ s Dn S h => h σ F H A S⟩
theorem sokt_seq {t u : TS} (h1 : SOkT X fa W t g) (h2 : SOkT X fa W u g') : SOkT X fa W (tSeq t u) (gSeq g g') := by
  intro B F0 H0 F H A σ ρ s Dn S h
  refine h1 B F0 H0 F H A σ ρ s _ S ?_
  change GoodS X fa W B F0 H0 ((g ρ s).bnd _) Dn at h
  generalize g ρ s = r at h
  cases r with
  | bad => exact h
  | err e s' => exact h
  | ok q s' =>
    obtain ⟨fl, ρ'⟩ := q
    cases fl with
    | nx => exact fun σ' F' H' A' S' => h2 B F0 H0 F' H' A' σ' ρ' s' Dn S' h
    | bk => exact h
    | ct => exact h
    | rt d => exact h
theorem ssj_cons (h1 : SJ X fa W st g) (h2 : SSJ X fa W sts g') : SSJ X fa W (st :: sts) (gSeq g g') := by
  obtain ⟨t, p, k⟩ := h1
  obtain ⟨t', p', k'⟩ := h2
  exact ⟨_, pss_cons p p', sokt_seq k k'⟩
theorem ssj_one (h1 : SJ X fa W st g) : SSJ X fa W [st] g := by
  obtain ⟨t, p, k⟩ := h1
  exact ⟨_, pss_one p, k⟩
/-- slot i is frozen ahead of the rest -/
theorem ssj_frz (i : Nat) (h : SSJ X fa W sts g) : SSJ X fa W sts (gFrz i g) := by
  obtain ⟨t, p, k⟩ := h
  refine ⟨t, p, fun B F0 H0 F H A σ ρ s Dn S hg => ?_⟩
  unfold gFrz frz at hg
  cases e : ρ[i]? with
  | none =>
    rw [e] at hg
    exact k B F0 H0 F H A σ ρ s Dn S hg
  | some ev =>
    rw [e] at hg
    obtain ⟨F', S'⟩ := S.freeze e
    exact k B F0 H0 F' H A σ _ s Dn S' hg
theorem sj_pass : SJ X fa W (.Pass pos) gNext := ⟨_, ps_pass, fun B F0 H0 F H A σ ρ s Dn S h => h σ F H A S⟩
theorem sj_break : SJ X fa W (.Break pos) gBreak := ⟨_, ps_break, fun B F0 H0 F H A σ ρ s Dn S h => h σ F H A S⟩
theorem sj_cont : SJ X fa W (.Continue pos) gCont := ⟨_, ps_continue, fun B F0 H0 F H A σ ρ s Dn S h => h σ F H A S⟩
theorem sj_doc {x : Str} {j : Nat} {pos' : Pos} : SJ X fa W (.Expr (.Constant (.str x) j pos) pos') gNext := ⟨_, ps_doc, fun B F0 H0 F H A σ ρ s Dn S h => h σ F H A S⟩
theorem app0 {α : Type} {l : List α} : l ++ [] = l := List.append_nil l
/-- a name = a value, by the statement's reading -/
theorem sj_asg {te : TE} {i : Nat} (hp : PS X st (tAsg te (gName i))) (hv : VOk X fa W te f) : SJ X fa W st (gSet i f) := by
  refine ⟨_, hp, fun B F0 H0 F H A σ ρ s Dn S hg => ?_⟩
  refine hv.then (vs := []) (evs := []) GoodS.tgt S.len (by rw [app0, app0]; exact S) hg fun ev ρ' s' w F' H' A' S' hl h' => ?_
  rw [app0, app0] at S'
  exact h' _ F' H' _ (S'.pop hl i)
theorem sj_set {i : Nat} {x : Str} {pos' : Pos} (hN : X.N.Nodup) (hv : VJ X fa W e f) (hi : X.N[i]? = some x := by rfl) (hx : Loc X.env.scope x := by first | exact .inl rfl | exact .inr rfl) (hs : swapsWith e (some (.Name x pos')) pos.line X.env = pure false := by rfl)
    (hf : X.fn x = true ∨ X.env.scope.names.lookup x = some .local := by first | exact .inl rfl | exact .inr rfl | assumption) : SJ X fa W (.Assign [.Name x pos'] e pos) (gSet i f) := by
  obtain ⟨t, p, k⟩ := hv
  exact sj_asg (ps_set hN hi hx p hs hf) k
theorem sj_expr (hv : VJ X fa W e f) (hs : swapsWith e none pos.line X.env = pure false := by rfl) : SJ X fa W (.Expr e pos) (gDrop f) := by
  obtain ⟨t, p, k⟩ := hv
  refine ⟨_, ps_expr p hs, fun B F0 H0 F H A σ ρ s Dn S hg => ?_⟩
  refine k.then (vs := []) (evs := []) GoodS.tgt S.len (by rw [app0, app0]; exact S) hg fun ev ρ' s' w F' H' A' S' hl h' => ?_
  rw [app0, app0] at S'
  exact h' _ F' H' _ (S'.drop hl)
theorem sj_if {c1 : Env' → M Bool} (hc : TD X fa (fun _ => W) c c1) (ha : SSJ X fa W sts g) (hb : SSJ X fa W sts' g') : SJ X fa W (.If c sts sts' pos) (gIf c1 g g') := by
  obtain ⟨tc, pc, kc⟩ := hc
  obtain ⟨ta, pa, ka⟩ := ha
  obtain ⟨tb, pb, kb⟩ := hb
  refine ⟨_, ps_if pc pa pb, fun B F0 H0 F H A σ ρ s Dn S hg => ?_⟩
  obtain ⟨ff, fh, fo0, ex0⟩ := S.fp
  have S0 : SOk X.K fa B F0 H0 F H A (σ ++ []) (ρ ++ []) s := by rw [app0, app0]; exact S
  have en := S0.view S.len
  rw [app0] at en
  refine kc σ (Fp F H A ρ) H (view ρ) s _ fh fo0 en ?_
  change GoodS X fa W B F0 H0 ((c1 (view ρ) s).bnd _) Dn at hg
  generalize c1 (view ρ) s = r at hg
  cases r with
  | bad => exact hg
  | err e s' => exact fun cls dd F' H' e fo rx => hg cls dd F' H' (ex0.trans e) fo rx
  | ok k s' =>
    intro F' H' e fo
    have S1 := S.back e fo
    cases k with
    | true => exact iteT (ka B F0 H0 F H' A σ ρ s' Dn S1 hg)
    | false => exact iteF (kb B F0 H0 F H' A σ ρ s' Dn S1 hg)
theorem sj_ret {f1 : Env' → M D} (ha : ED X fa (fun _ => W) e f1) : SJ X fa W (.Return (some e) pos) (gRet f1) := by
  obtain ⟨ta, pa, ka⟩ := ha
  refine ⟨_, ps_ret pa, fun B F0 H0 F H A σ ρ s Dn S hg => ?_⟩
  obtain ⟨ff, fh, fo0, ex0⟩ := S.fp
  have S0 : SOk X.K fa B F0 H0 F H A (σ ++ []) (ρ ++ []) s := by rw [app0, app0]; exact S
  have en := S0.view S.len
  rw [app0] at en
  refine ka σ (Fp F H A ρ) H (view ρ) s _ fh fo0 en ?_
  change GoodS X fa W B F0 H0 ((f1 (view ρ) s).bnd _) Dn at hg
  generalize f1 (view ρ) s = r at hg
  cases r with
  | bad => exact hg
  | err e s' => exact fun cls dd F' H' e fo rx => hg cls dd F' H' (ex0.trans e) fo rx
  | ok x s' => exact fun v F' H' e fo r => hg v F' H' (ex0.trans e) fo r ⟨F, A, σ, S.back e fo⟩
theorem sj_retN : SJ X fa W (.Return none pos) gRetN := ⟨_, ps_retN, fun B F0 H0 F H A σ ρ s Dn S h => h .non F H S.ext S.fd .non ⟨F, A, σ, S⟩⟩
end
end DL

set_option Elab.async false
set_option linter.all false
set_option maxRecDepth 100000
set_option maxHeartbeats 2000000
/-! The data layer: targets, what is walked, for, comprehensions. -/
namespace DL
open PySem PySem.Spec PyProof.Rows L2

/-! ### targets -/
abbrev Asg := List (Nat × D)
inductive RepA (K : PySem.W.Frag) (fa : Option FA) (F : Hp) : Asg → List (Nat × V) → Prop
  | nil : RepA K fa F [] []
  | cons {i : Nat} {d : D} {v : V} {as : Asg} {ws : List (Nat × V)} : Rep K fa F d v → RepA K fa F as ws → RepA K fa F ((i, d) :: as) ((i, v) :: ws)
def setV : List (Nat × V) → L2.St → L2.St
  | [], σ => σ
  | (i, v) :: r, σ => setV r (σ.set i (some v))
def setE : Asg → Env' → Env'
  | [], ρ => ρ
  | (i, d) :: r, ρ => setE r (ρ.set i (some d))
def setS : Asg → Sts → Sts
  | [], ρ => ρ
  | (i, d) :: r, ρ => setS r (ρ.set i (.d d))
section
variable {K : PySem.W.Frag} {fa : Option FA} {B F0 H0 F H : Hp} {s : FS}
theorem RepA.append {as bs : Asg} {ws us : List (Nat × V)} (a : RepA K fa F as ws) (b : RepA K fa F bs us) : RepA K fa F (as ++ bs) (ws ++ us) := by
  induction a with
  | nil => exact b
  | cons r _ ih => exact .cons r ih
theorem setV_append : ∀ (ws us : List (Nat × V)) (σ : L2.St), setV (ws ++ us) σ = setV us (setV ws σ)
  | [], _, _ => rfl
  | (i, v) :: r, us, σ => setV_append r us _
theorem EnvOk.setE {as : Asg} {ws : List (Nat × V)} (r : RepA K fa F as ws) : ∀ {σ : L2.St} {ρ : Env'}, EnvOk K fa F σ ρ → EnvOk K fa F (setV ws σ) (DL.setE as ρ) := by
  induction r with
  | nil => exact fun h => h
  | cons r _ ih => exact fun h => ih (h.set r)
theorem SOk.set {A : Nat → Addr} {σ : L2.St} {ρ : Sts} (S : SOk K fa B F0 H0 F H A σ ρ s) {x : D} {v : V} (r : Rep K fa F x v) (i : Nat) : ∃ A', SOk K fa B F0 H0 F H A' (σ.set i (some v)) (ρ.set i (.d x)) s :=
  ⟨_, (S.push r).pop S.len i⟩
theorem SOk.setS {as : Asg} {ws : List (Nat × V)} (r : RepA K fa F as ws) : ∀ {A : Nat → Addr} {σ : L2.St} {ρ : Sts}, SOk K fa B F0 H0 F H A σ ρ s → ∃ A', SOk K fa B F0 H0 F H A' (setV ws σ) (DL.setS as ρ) s := by
  induction r with
  | nil => exact fun h => ⟨_, h⟩
  | cons r _ ih =>
    intro A σ ρ h
    obtain ⟨A', h'⟩ := h.set r _
    exact ih h'
end
def GOk (X : Cx) (ns : List Nat) (g : TG) (b : D → Option Asg) : Prop :=
  ∀ (fa : Option FA) (F H : Hp) (x : D) (v : V) (σ : L2.St) (Q : L2.St → Hp → Prop) (as : Asg), Same F H → Rep X.K fa F x v → b x = some as → (∀ ws, RepA X.K fa F as ws → as.map (·.1) = ns → Q (setV ws σ) H) → g v σ H Q
def GsOk (X : Cx) (ns : List Nat) (g : TGs) (b : List D → Option Asg) : Prop :=
  ∀ (fa : Option FA) (F H : Hp) (x : List D) (v : List V) (σ : L2.St) (Q : L2.St → Hp → Prop) (as : Asg), Same F H → RepL X.K fa F x v → b x = some as → (∀ ws, RepA X.K fa F as ws → as.map (·.1) = ns → Q (setV ws σ) H) → g v σ H Q
/-- A TARGET: it takes an item apart into slots ns -/
def TJ (X : Cx) (tg : Expr) (ns : List Nat) (b : D → Option Asg) : Prop := ∃ g, PG X tg g ∧ GOk X ns g b
def TsJ (X : Cx) (ts : List Expr) (ns : List Nat) (b : List D → Option Asg) : Prop := ∃ g, PGs X ts g ∧ GsOk X ns g b
def bName (i : Nat) : D → Option Asg := fun x => some [(i, x)]
def bNil : List D → Option Asg
  | [] => some []
  | _ => none
def bCons (b : D → Option Asg) (bs : List D → Option Asg) : List D → Option Asg
  | [] => none
  | x :: xs => (b x).bind fun a => (bs xs).bind fun r => some (a ++ r)
def bTup (bs : List D → Option Asg) : D → Option Asg
  | .tup xs => bs xs
  | _ => none
section
variable {X : Cx} {tg e iter : Expr} {ts es : List Expr} {ns ms : List Nat} {b : D → Option Asg} {bs : List D → Option Asg} {pos : Pos}
theorem tj_name {i : Nat} {x : Str} (hN : X.N.Nodup) (hi : X.N[i]? = some x := by rfl) (hx : Loc X.env.scope x := by first | exact .inl rfl | exact .inr rfl) (hf : X.fn x = true ∨ X.env.scope.names.lookup x = some .local := by first | exact .inl rfl | exact .inr rfl | assumption) : TJ X (.Name x pos) [i] (bName i) := by
  refine ⟨_, pg_name hN hi hx hf, fun fa F H x v σ Q as h r e k => ?_⟩
  cases e
  exact k [(i, v)] (.cons r .nil) rfl
theorem tsj_nil : TsJ X [] [] bNil := by
  refine ⟨_, pgs_nil, fun fa F H x v σ Q as h r e k => ?_⟩
  cases r with
  | nil => cases e; exact ⟨rfl, k [] .nil rfl⟩
  | cons _ _ => cases e
theorem tsj_cons (h1 : TJ X tg ns b) (h2 : TsJ X ts ms bs) (hs : (assignEach (tg :: ts) X.env).map (·.2) = assign tg X.env :: (assignEach ts X.env).map (·.2) := by rfl) : TsJ X (tg :: ts) (ns ++ ms) (bCons b bs) := by
  obtain ⟨g, p, k⟩ := h1
  obtain ⟨g', p', k'⟩ := h2
  refine ⟨_, pgs_cons p p' hs, fun fa F H x v σ Q as h r e q => ?_⟩
  cases r with
  | nil => cases e
  | @cons d v ds vs r rr =>
    change ((b d).bind fun a => (bs ds).bind fun r => some (a ++ r)) = some as at e
    cases e1 : b d with
    | none => rw [e1] at e; cases e
    | some a1 =>
      rw [e1] at e
      change ((bs ds).bind fun r => some (a1 ++ r)) = some as at e
      cases e2 : bs ds with
      | none => rw [e2] at e; cases e
      | some a2 =>
        rw [e2] at e
        cases e
        refine ⟨_, _, rfl, k fa F H d v σ _ a1 h r e1 fun ws hw hn => k' fa F H ds vs _ Q a2 h rr e2 fun us hu hm => ?_⟩
        rw [← setV_append]
        exact q _ (hw.append hu) (by rw [List.map_append, hn, hm])
theorem tj_tup {k : Nat} {n : Nat} (hc : X.calm = true) (h : TsJ X es ns bs) (hl : ∀ xs as, bs xs = some as → xs.length = n) (hn : (assignEach es X.env).length = n := by rfl) (hst : (assignEach es X.env).findIdx? (·.1) = none := by rfl) : TJ X (.Tuple es k pos) ns (bTup bs) := by
  obtain ⟨g, p, kk⟩ := h
  refine ⟨_, pg_tup hc p hn hst, fun fa F H x v σ Q as h r e q => ?_⟩
  cases r with
  | tup ht rl => exact ⟨_, _, rfl, same_seqT h ht, by rw [← rl.length]; exact hl _ _ e, kk fa F H _ _ σ Q as h rl e q⟩
  | _ => cases e
theorem bNil_len : ∀ xs as, bNil xs = some as → xs.length = 0
  | [], _, _ => rfl
  | _ :: _, _, h => by cases h
theorem bCons_len {n : Nat} {b : D → Option Asg} {bs : List D → Option Asg} (h : ∀ xs as, bs xs = some as → xs.length = n) : ∀ xs as, bCons b bs xs = some as → xs.length = n + 1
  | [], _, q => by cases q
  | x :: xs, as, q => by
    change ((b x).bind fun a => (bs xs).bind fun r => some (a ++ r)) = some as at q
    cases e1 : b x with
    | none => rw [e1] at q; cases q
    | some a1 =>
      rw [e1] at q
      change ((bs xs).bind fun r => some (a1 ++ r)) = some as at q
      cases e2 : bs xs with
      | none => rw [e2] at q; cases q
      | some a2 => exact congrArg (· + 1) (h xs a2 e2)
end

/-! ### what is walked -/
structure WJ (K : PySem.W.Frag) (fa : Option FA) (J : It) (F : Hp) (xs : List D) : Prop where
  ex : ∃ G Y, Walk J xs.length G Y ∧ (∀ F2 H2, Same F F2 → Same F2 H2 → G H2) ∧
    ∀ (i : Nat) x F2 H2 v H3, xs[i]? = some x → Same F F2 → Same F2 H2 → Y i H2 v H3 → ∃ F3, Same F2 F3 ∧ Same F3 H3 ∧ Same H2 H3 ∧ (∀ b, H2 b ≠ none → F3 b = F2 b) ∧ Rep K fa F3 x v
def GoodI (X : Cx) (fa : Option FA) (W : XK) (F H : Hp) (r : Res (List D)) (R : It → Hp → Prop) : Prop :=
  match r with
  | .bad => False
  | .ok xs s' => ∀ J F' H', Ext fa F H F' H' → FeedOk X.K fa F' H' s' → WJ X.K fa J F' xs → R J H'
  | .err e s' => ∀ cls dd F' H', Ext fa F H F' H' → FeedOk X.K fa F' H' s' → RepX X.K X.mg fa F' H' e cls dd → W cls dd H'
def IOk (X : Cx) (fa : Option FA) (W : L2.St → XK) (wi : TI) (f : Env' → M (List D)) : Prop :=
  ∀ (σ : L2.St) (F H : Hp) (ρ : Env') (s : FS) (R : It → Hp → Prop), Same F H → FeedOk X.K fa F H s → EnvOk X.K fa F σ ρ → GoodI X fa (W σ) F H (f ρ s) R → wi σ H R

/-- AN ITERABLE: it gives the items one by one -/
def IJ (X : Cx) (fa : Option FA) (W : L2.St → XK) (tg e : Expr) (f : Env' → M (List D)) : Prop := ∃ wi, PI X tg e wi ∧ IOk X fa W wi f
def iSeq (f : Env' → M D) : Env' → M (List D) := fun ρ => (f ρ).bind fun x => M.lift (seqD x)
def strD : D → Option (List D)
  | .str z => some (z.cps.toList.map fun c => .str ⟨#[c]⟩)
  | _ => none
def iText (f : Env' → M D) : Env' → M (List D) := fun ρ => (f ρ).bind fun x => M.lift (strD x)
/-- lo, lo + 1, .. -/
def rangeD (lo : Int) (n : Nat) : List D := (List.range n).map fun i => .int (lo + (i : Nat))
def rng1 : List D → Option (List D)
  | [.int j] => if -(2 ^ 62) ≤ j ∧ j < 2 ^ 62 then some (rangeD 0 j.toNat) else none
  | _ => none
def rng2 : List D → Option (List D)
  | [.int i, .int j] => if -(2 ^ 62) ≤ i ∧ i < 2 ^ 62 ∧ -(2 ^ 62) ≤ j ∧ j < 2 ^ 62 then some (rangeD i (j - i).toNat) else none
  | _ => none
def iFn (g : List D → Option (List D)) (f : Env' → M (List D)) : Env' → M (List D) := fun ρ => (f ρ).bind fun xs => M.lift (g xs)
def enumD : Nat → List D → List D
  | _, [] => []
  | k, x :: xs => .tup [.int (k : Nat), x] :: enumD (k + 1) xs
def enm : List D → Option (List D)
  | [.lst xs] => some (enumD 0 xs)
  | _ => none
def zipD : List D → List D → List D
  | x :: xs, y :: ys => .tup [x, y] :: zipD xs ys
  | _, _ => []
def zp : List D → Option (List D)
  | [.lst xs, .lst ys] => some (zipD xs ys)
  | [.tup xs, .tup ys] => some (zipD xs ys)
  | _ => none
theorem enumD_get : ∀ (xs : List D) (k i : Nat), (enumD k xs)[i]? = xs[i]?.map fun x => .tup [.int ((k + i : Nat) : Int), x]
  | [], k, i => by simp [enumD]
  | x :: xs, k, 0 => by simp [enumD]
  | x :: xs, k, i + 1 => by
    have := enumD_get xs (k + 1) i
    simp only [enumD, List.getElem?_cons_succ, this]
    rw [show k + 1 + i = k + (i + 1) by omega]
theorem enumD_len : ∀ (xs : List D) (k : Nat), (enumD k xs).length = xs.length
  | [], _ => rfl
  | x :: xs, k => congrArg (· + 1) (enumD_len xs (k + 1))
theorem zipD_len : ∀ (xs ys : List D), (zipD xs ys).length = min xs.length ys.length
  | [], _ => by simp [zipD]
  | _ :: _, [] => by simp [zipD]
  | x :: xs, y :: ys => by simp only [zipD, List.length_cons, zipD_len xs ys]; omega
theorem zipD_get : ∀ (xs ys : List D) (i : Nat) (z : D), (zipD xs ys)[i]? = some z → ∃ x y, xs[i]? = some x ∧ ys[i]? = some y ∧ z = .tup [x, y]
  | [], _, _, _, h => by simp [zipD] at h
  | _ :: _, [], _, _, h => by simp [zipD] at h
  | x :: xs, y :: ys, 0, z, h => by simp [zipD] at h; exact ⟨x, y, rfl, rfl, h.symm⟩
  | x :: xs, y :: ys, i + 1, z, h => by
    obtain ⟨a, b, h1, h2, h3⟩ := zipD_get xs ys i z (by simpa [zipD] using h)
    exact ⟨a, b, by simpa using h1, by simpa using h2, h3⟩
section
variable {X : Cx} {fa : Option FA} {W : XK} {Wσ : L2.St → XK} {tg a b c e o : Expr} {es rest : List Expr} {pos p apos : Pos} {F H F' H' : Hp} {fl : Env' → M (List D)} {f1 : Env' → M D}
theorem GoodI.tgt {R : It → Hp → Prop} : Tgt X fa W (fun F H (r : Res (List D)) => GoodI X fa W F H r R) := by
  refine ⟨fun _ _ h => h, fun _ _ _ _ h => h, fun F H F' H' r e h => ?_⟩
  cases r with
  | bad => exact h
  | ok d s => exact fun v F2 H2 e2 => h v F2 H2 (e.trans e2)
  | err x s => exact fun c dd F2 H2 e2 => h c dd F2 H2 (e.trans e2)
/-- nothing is made -/
theorem wj_here {J : It} {xs : List D} {G : Hp → Prop} {Y : Nat → Hp → V → Hp → Prop} (w : Walk J xs.length G Y) (hG : ∀ F2 H2, Same F F2 → Same F2 H2 → G H2)
    (hY : ∀ (i : Nat) x F2 H2 v H3, xs[i]? = some x → Same F F2 → Same F2 H2 → Y i H2 v H3 → H3 = H2 ∧ Rep X.K fa F2 x v) : WJ X.K fa J F xs :=
  ⟨⟨G, Y, w, hG, fun i x F2 H2 v H3 hx h1 h2 y => by
    obtain ⟨rfl, r⟩ := hY i x F2 H2 v H3 hx h1 h2 y
    exact ⟨F2, Same.refl _, h2, Same.refl _, fun _ _ => rfl, r⟩⟩⟩
/-- pairs are made -/
theorem wj_pair {J : It} {xs : List D} {G : Hp → Prop} {u w' : Nat → Option V} (w : Walk J xs.length G (YPair u w')) (hG : ∀ F2 H2, Same F F2 → Same F2 H2 → G H2)
    (hY : ∀ (i : Nat) x, xs[i]? = some x → ∃ d e, x = .tup [d, e] ∧ (∀ F2 v, Same F F2 → u i = some v → Rep X.K fa F2 d v) ∧ ∀ F2 v, Same F F2 → w' i = some v → Rep X.K fa F2 e v) : WJ X.K fa J F xs :=
  ⟨⟨G, _, w, hG, fun i x F2 H2 v H3 hx h1 h2 y => by
    obtain ⟨T, x1, x2, rfl, hT, rfl, q1, q2⟩ := y
    obtain ⟨d, e, rfl, r1, r2⟩ := hY i x hx
    have ex : Ext (none : Option FA) F2 H2 (upd F2 T (.tup [x1, x2])) (upd H2 T (.tup [x1, x2])) := Ext.new h2 hT
    exact ⟨_, ex.ff, ex.fh, fun b o q => ex.hh b o q (fun _ z => nomatch z), ex.fr, .tup (SqT.of upd_same) (.cons ((r1 F2 x1 h1 q1).mono ex.ff) (.cons ((r2 F2 x2 h1 q2).mono ex.ff) .nil))⟩⟩⟩
theorem wj_list {a : Addr} {xs : List D} {vs : List V} (h : F a = some (.lst vs)) (r : RepL X.K fa F xs vs) : WJ X.K fa (Itl X.K a) F xs := by
  refine wj_here (Y := YAt vs) (by rw [r.length]; exact walk_list (xs := vs)) (fun F2 H2 h1 h2 => SqL.of (h2 _ _ (h1 _ _ h))) fun i x F2 H2 v H3 hx h1 h2 y => ⟨y.1, ?_⟩
  obtain ⟨d, hd, rd⟩ := r.get y.2
  rw [hx] at hd
  cases hd
  exact rd.mono h1
theorem wj_tup {a : Addr} {xs : List D} {vs : List V} (h : SqT X.K F a vs) (r : RepL X.K fa F xs vs) : WJ X.K fa (Itt X.K a) F xs := by
  refine wj_here (Y := YAt vs) (by rw [r.length]; exact walk_tup (xs := vs)) (fun F2 H2 h1 h2 => same_seqT h2 (same_seqT h1 h)) fun i x F2 H2 v H3 hx h1 h2 y => ⟨y.1, ?_⟩
  obtain ⟨d, hd, rd⟩ := r.get y.2
  rw [hx] at hd
  cases hd
  exact rd.mono h1
theorem PI.or {wi wi' : TI} (h : PI X tg e wi) (h' : PI X tg e wi') : PI X tg e (fun σ H R => wi σ H R ∨ wi' σ H R) :=
  ⟨fun pins s σ H R I q => q.elim (h.run pins s σ H R I) (h'.run pins s σ H R I)⟩
/-- a list or a tuple -/
theorem ij_seq (h : ED X fa Wσ e f1) : IJ X fa Wσ tg e (iSeq f1) := by
  obtain ⟨t, p, k⟩ := h
  refine ⟨_, PI.or (pi_list p) (pi_tup p), fun σ F H ρ s R h1 h2 h3 hg => ?_⟩
  change GoodI X fa (Wσ σ) F H ((f1 ρ s).bnd _) R at hg
  cases q : f1 ρ s with
  | bad => rw [q] at hg; exact hg.elim
  | err e s' =>
    rw [q] at hg
    refine .inl (k σ F H ρ s _ h1 h2 h3 ?_)
    rw [q]
    exact hg
  | ok x s' =>
    rw [q] at hg
    cases x with
    | lst xs =>
      refine .inl (k σ F H ρ s _ h1 h2 h3 ?_)
      rw [q]
      intro v F' H' e fo r
      cases r with
      | lst hq rl => exact ⟨_, rfl, ⟨_, SqL.of (e.fh _ _ hq)⟩, hg _ F' H' e fo (wj_list hq rl)⟩
    | tup xs =>
      refine .inr (k σ F H ρ s _ h1 h2 h3 ?_)
      rw [q]
      intro v F' H' e fo r
      cases r with
      | tup hq rl => exact ⟨_, rfl, ⟨_, same_seqT e.fh hq⟩, hg _ F' H' e fo (wj_tup hq rl)⟩
    | _ => exact hg.elim
theorem ij_text (h : ED X fa Wσ e f1) : IJ X fa Wσ tg e (iText f1) := by
  obtain ⟨t, p, k⟩ := h
  refine ⟨_, pi_str p, fun σ F H ρ s R h1 h2 h3 hg => ?_⟩
  refine k.then GoodI.tgt h1 h2 h3 hg fun x s1 v F1 H1 e1 o1 r1 v1 h' => ?_
  change GoodI X fa (Wσ σ) F1 H1 (M.lift (strD x) s1) R at h'
  cases r1 with
  | str z =>
    refine ⟨z, rfl, h' _ F1 H1 (Ext.refl e1.fh) o1 (wj_here (xs := z.cps.toList.map fun c => .str ⟨#[c]⟩) (Y := fun i H v H' => H' = H ∧ ∃ c, z.cps[i]? = some c ∧ v = .str ⟨#[c]⟩) (by rw [List.length_map]; exact walk_str (z := z)) (fun _ _ _ _ => trivial) fun i x F2 H2 v H3 hx h1 h2 y => ⟨y.1, ?_⟩)⟩
    obtain ⟨c, hc, rfl⟩ := y.2
    rw [List.getElem?_map, Array.getElem?_toList, hc] at hx
    cases hx
    exact .str _
  | _ => exact h'.elim
theorem rangeD_get {lo : Int} {n i : Nat} {x : D} (h : (rangeD lo n)[i]? = some x) : x = .int (lo + (i : Nat)) := by
  unfold rangeD at h
  rw [List.getElem?_map] at h
  cases q : (List.range n)[i]? with
  | none => rw [q] at h; cases h
  | some j =>
    rw [q] at h
    obtain ⟨hl, e⟩ := List.getElem?_eq_some_iff.mp q
    rw [List.getElem_range] at e
    subst e
    exact (Option.some.inj h).symm
theorem wj_range {lo : Int} {n : Nat} : WJ X.K fa (Itr lo n) F (rangeD lo n) := by
  refine wj_here (Y := YFn fun i => .int (lo + (i : Nat))) (by rw [show (rangeD lo n).length = n by simp [rangeD]]; exact walk_range) (fun _ _ _ _ => trivial) fun i x F2 H2 v H3 hx h1 h2 y => ⟨y.1, ?_⟩
  rw [rangeD_get hx, y.2]
  exact .int _
theorem ij_range1 (hm : X.mg "range" = none) (ha : LD X fa Wσ [a] fl) (hg : Gl X "range" := by rfl) (hs : starEach [a] X.env = [(false, eval a X.env)] := by rfl) : IJ X fa Wσ tg (.Call (.Name "range" p) [a] [] pos) (iFn rng1 fl) := by
  obtain ⟨t, q, k⟩ := ha
  refine ⟨_, pi_range1 hg hm q hs, fun σ F H ρ s R h1 h2 h3 hg => ?_⟩
  refine k.then GoodI.tgt h1 h2 h3 hg fun x s1 v F1 H1 e1 o1 r1 v1 h' => ?_
  change GoodI X fa (Wσ σ) F1 H1 (M.lift (rng1 x) s1) R at h'
  cases r1 with
  | nil => exact h'.elim
  | cons r rr =>
    cases rr with
    | cons _ _ => cases r <;> exact h'.elim
    | nil =>
      cases r with
      | int j =>
        by_cases hj : -(2 ^ 62) ≤ j ∧ j < 2 ^ 62
        · rw [show rng1 [.int j] = some (rangeD 0 j.toNat) from if_pos hj] at h'
          exact ⟨j, rfl, hj.1, hj.2, h' _ F1 H1 (Ext.refl e1.fh) o1 wj_range⟩
        · rw [show rng1 [.int j] = none from if_neg hj] at h'
          exact h'.elim
      | _ => exact h'.elim
theorem ij_range2 (hm : X.mg "range" = none) (ha : LD X fa Wσ [a, b] fl) (hg : Gl X "range" := by rfl) (hs : starEach [a, b] X.env = [(false, eval a X.env), (false, eval b X.env)] := by rfl) (hs2 : starEach [b] X.env = [(false, eval b X.env)] := by rfl) : IJ X fa Wσ tg (.Call (.Name "range" p) [a, b] [] pos) (iFn rng2 fl) := by
  obtain ⟨t, q, k⟩ := ha
  refine ⟨_, pi_range2 hg hm q hs hs2, fun σ F H ρ s R h1 h2 h3 hg => ?_⟩
  refine k.then GoodI.tgt h1 h2 h3 hg fun x s1 v F1 H1 e1 o1 r1 v1 h' => ?_
  change GoodI X fa (Wσ σ) F1 H1 (M.lift (rng2 x) s1) R at h'
  cases r1 with
  | nil => exact h'.elim
  | cons r rr =>
    cases rr with
    | nil => cases r <;> exact h'.elim
    | cons r' rr =>
      cases rr with
      | cons _ _ => cases r <;> cases r' <;> exact h'.elim
      | nil =>
        cases r with
        | int i =>
          cases r' with
          | int j =>
            by_cases hj : -(2 ^ 62) ≤ i ∧ i < 2 ^ 62 ∧ -(2 ^ 62) ≤ j ∧ j < 2 ^ 62
            · rw [show rng2 [.int i, .int j] = some (rangeD i (j - i).toNat) from if_pos hj] at h'
              exact ⟨i, j, rfl, hj, h' _ F1 H1 (Ext.refl e1.fh) o1 wj_range⟩
            · rw [show rng2 [.int i, .int j] = none from if_neg hj] at h'
              exact h'.elim
          | _ => exact h'.elim
        | _ => exact h'.elim
theorem ij_enum {elts : List Expr} {kk : Nat} {tpos : Pos} (hm : X.mg "enumerate" = none) (ha : LD X fa Wσ [e] fl) (hg : Gl X "enumerate" := by rfl) (hs : starEach [e] X.env = [(false, eval e X.env)] := by rfl) : IJ X fa Wσ (.Tuple elts kk tpos) (.Call (.Name "enumerate" p) [e] [] pos) (iFn enm fl) := by
  obtain ⟨t, q, k⟩ := ha
  refine ⟨_, pi_enum hg hm q hs, fun σ F H ρ s R h1 h2 h3 hg => ?_⟩
  refine k.then GoodI.tgt h1 h2 h3 hg fun x s1 v F1 H1 e1 o1 r1 v1 h' => ?_
  change GoodI X fa (Wσ σ) F1 H1 (M.lift (enm x) s1) R at h'
  cases r1 with
  | nil => exact h'.elim
  | cons r rr =>
    cases rr with
    | cons _ _ => cases r <;> exact h'.elim
    | nil =>
      cases r with
      | @lst a xs vs hq rl =>
        refine ⟨a, vs, rfl, SqL.of (e1.fh _ _ hq), h' _ F1 H1 (Ext.refl e1.fh) o1 (wj_pair (xs := enumD 0 xs) (by rw [enumD_len, rl.length]; exact walk_enum (xs := vs)) (fun F2 H2 h1 h2 => SqL.of (h2 _ _ (h1 _ _ hq))) fun i x hx => ?_)⟩
        rw [enumD_get] at hx
        cases qx : xs[i]? with
        | none => rw [qx] at hx; cases hx
        | some y =>
          rw [qx] at hx
          cases hx
          refine ⟨_, _, rfl, fun F2 v h1 hv => ?_, fun F2 v h1 hv => ?_⟩
          · cases hv
            rw [Nat.zero_add]
            exact .int _
          · obtain ⟨d, hd, rd⟩ := rl.get hv
            rw [qx] at hd
            cases hd
            exact rd.mono h1
      | _ => exact h'.elim
theorem wj_zip {J : It} {xs ys : List D} {us ws : List V} {G : Hp → Prop} (w : ∀ n, n = min us.length ws.length → Walk J n G (YPair (fun i => us[i]?) (fun i => ws[i]?))) (hG : ∀ F2 H2, Same F F2 → Same F2 H2 → G H2) (r1 : RepL X.K fa F xs us) (r2 : RepL X.K fa F ys ws) : WJ X.K fa J F (zipD xs ys) := by
  refine wj_pair (w _ (by rw [zipD_len, r1.length, r2.length])) hG fun i x hx => ?_
  obtain ⟨d, e, h1, h2, rfl⟩ := zipD_get xs ys i x hx
  refine ⟨d, e, rfl, fun F2 v h hv => ?_, fun F2 v h hv => ?_⟩
  · obtain ⟨d', hd, rd⟩ := r1.get hv
    rw [h1] at hd
    cases hd
    exact rd.mono h
  · obtain ⟨d', hd, rd⟩ := r2.get hv
    rw [h2] at hd
    cases hd
    exact rd.mono h
theorem walk_zipT {K : PySem.W.Frag} {a b : Addr} {xs ys : List V} {n : Nat} (hn : n = min xs.length ys.length) : Walk (RZ.ItzT K a b) n (fun H => SqT K H a xs ∧ SqT K H b ys) (YPair (fun i => xs[i]?) (fun i => ys[i]?)) := by
  subst hn
  refine ⟨fun i _ hi q => ?_, fun _ q => ⟨xs, ys, q.1, q.2, by omega⟩, fun i H v H' _ q y => ?_⟩
  · have h1 : i < xs.length := by omega
    have h2 : i < ys.length := by omega
    exact ⟨xs, ys, xs[i], ys[i], q.1, q.2, by simp [h1], by simp [h2]⟩
  · obtain ⟨T, x, z, h1, h2, h3, h4, h5⟩ := y
    exact ⟨T, x, z, h1, h2, h3, h4 xs q.1, h5 ys q.2⟩
theorem ij_zip {elts : List Expr} {kk : Nat} {tpos : Pos} (hm : X.mg "zip" = none) (ha : LD X fa Wσ [a, b] fl) (hg : Gl X "zip" := by rfl) (hs : starEach [a, b] X.env = (false, eval a X.env) :: starEach [b] X.env := by rfl) (hs2 : (backTo pos (starEach [b] X.env)).any (·.1) = false := by rfl) : IJ X fa Wσ (.Tuple elts kk tpos) (.Call (.Name "zip" p) [a, b] [] pos) (iFn zp fl) := by
  obtain ⟨t, q, k⟩ := ha
  refine ⟨_, RZ.pi_zipA hg hm q hs hs2, fun σ F H ρ s R h1 h2 h3 hg => ?_⟩
  refine k.then GoodI.tgt h1 h2 h3 hg fun x s1 v F1 H1 e1 o1 r1 v1 h' => ?_
  change GoodI X fa (Wσ σ) F1 H1 (M.lift (zp x) s1) R at h'
  cases r1 with
  | nil => exact h'.elim
  | cons r rr =>
    cases rr with
    | nil => cases r <;> exact h'.elim
    | cons r' rr =>
      cases rr with
      | cons _ _ => cases r <;> cases r' <;> exact h'.elim
      | nil =>
        cases r with
        | lst hq rl =>
          cases r' with
          | lst hq' rl' => exact ⟨_, _, _, _, rfl, .inl ⟨SqL.of (e1.fh _ _ hq), SqL.of (e1.fh _ _ hq'), h' _ F1 H1 (Ext.refl e1.fh) o1 (wj_zip (fun n hn => walk_zip hn) (fun F2 H2 h1 h2 => ⟨SqL.of (h2 _ _ (h1 _ _ hq)), SqL.of (h2 _ _ (h1 _ _ hq'))⟩) rl rl')⟩⟩
          | _ => exact h'.elim
        | tup hq rl =>
          cases r' with
          | tup hq' rl' => exact ⟨_, _, _, _, rfl, .inr ⟨same_seqT e1.fh hq, same_seqT e1.fh hq', h' _ F1 H1 (Ext.refl e1.fh) o1 (wj_zip (fun n hn => walk_zipT hn) (fun F2 H2 h1 h2 => ⟨same_seqT h2 (same_seqT h1 hq), same_seqT h2 (same_seqT h1 hq')⟩) rl rl')⟩⟩
          | _ => exact h'.elim
        | _ => cases r' <;> exact h'.elim
end
end DL

set_option Elab.async false
set_option linter.all false
set_option maxRecDepth 100000
set_option maxHeartbeats 2000000
/-! The data layer: for, comprehensions. -/
namespace DL
open PySem PySem.Spec PyProof.Rows L2

/-! ### for -/
def forS (b : D → Option Asg) (g : Sts → M (Fl × Sts)) : List D → Sts → M (Fl × Sts)
  | [], ρ => M.pure (.nx, ρ)
  | x :: xs, ρ => (M.lift (b x)).bind fun as => (g (setS as ρ)).bind fun p => match p.1 with
    | .nx => forS b g xs p.2
    | .ct => forS b g xs p.2
    | .bk => M.pure (.nx, p.2)
    | .rt d => M.pure (.rt d, p.2)
def gFor (it : Env' → M (List D)) (b : D → Option Asg) (g : Sts → M (Fl × Sts)) : Sts → M (Fl × Sts) := fun ρ => (it (mask ρ)).bind fun xs => forS b g xs ρ
section
variable {X : Cx} {fa : Option FA} {W : XK} {tg iter : Expr} {body : List Stmt} {pos : Pos} {it : Env' → M (List D)} {b : D → Option Asg} {g : Sts → M (Fl × Sts)} {ns : List Nat}
theorem ext_same {fa : Option FA} {F H F' H' : Hp} (a : Same F F') (b : Same F' H') (c : Same H H') (d : ∀ b, H b ≠ none → F' b = F b) : Ext fa F H F' H' := ⟨a, b, fun x o e _ => c x o e, d, fun x e => by
  cases q : H x with
  | none => exact absurd q e
  | some o => rw [c x o q]; simp⟩
/-- the loop, once its iterator stands -/
theorem for_go {B F0 H0 F H : Hp} {A : Nat → Addr} {σ : L2.St} {ρ : Sts} {s : FS} {Dn : Ends} {J : It} {xs : List D} {gt : TG} {tb : TS} (S : SOk X.K fa B F0 H0 F H A σ ρ s) (hw : WJ X.K fa J F xs) (hg : GOk X ns gt b) (hb : SOkT X fa W tb g)
    (h : GoodS X fa W B F0 H0 (forS b g xs ρ s) Dn) :
    ∃ W : Nat → Nat → L2.St → Hp → Prop, (∃ m, W 0 m σ H) ∧ ∀ i m σ H, W i m σ H →
      (J.stop i H ∧ Dn.nx σ H) ∨ (J.go i H ∧ ∃ N : L2.St → Hp → Prop, (∀ σ' H', N σ' H' → ∃ m', m' < m ∧ W (i + 1) m' σ' H') ∧ ∀ x H', J.yld i H x H' → gt x σ H' fun σ2 H2 => tb { Dn with nx := N, ct := N, bk := Dn.nx } σ2 H2) := by
  obtain ⟨G, Y, wk, hG, hY⟩ := hw.ex
  have hbase : GoodS X fa W F F0 H0 (forS b g xs ρ s) Dn := GoodS.base S.flr h
  refine for_it wk (fun i σ' H' => ∃ F' A' ρ' s', SOk X.K fa F F0 H0 F' H' A' σ' ρ' s' ∧ GoodS X fa W F F0 H0 (forS b g (xs.drop i) ρ' s') Dn) ⟨F, A, ρ, s, S.floor, hbase⟩ ?_ ?_ ?_
  · rintro i σ' H' _ ⟨F', A', ρ', s', S', _⟩
    exact hG F' H' S'.flr S'.ext.fh
  · rintro i x σ' H' H3 hi ⟨F', A', ρ', s', S', q⟩ y
    have hx : xs[i]? = some xs[i] := List.getElem?_eq_getElem hi
    obtain ⟨F3, a1, a2, a3, a4, r⟩ := hY i _ F' H' x H3 hx S'.flr S'.ext.fh y
    have S3 := S'.step (ext_same a1 a2 a3 a4) (S'.fd.ext_same a1 a3 a4)
    rw [List.drop_eq_getElem_cons hi] at q
    change GoodS X fa W F F0 H0 (((M.lift (b xs[i])).bind _) s') Dn at q
    cases e : b xs[i] with
    | none => rw [e] at q; exact q.elim
    | some as =>
      rw [e] at q
      refine hg fa F3 H3 _ _ σ' _ as S3.ext.fh r e fun ws hws _ => ?_
      obtain ⟨A4, S4⟩ := S3.setS hws
      refine hb F F0 H0 F3 H3 A4 _ _ s' _ S4 ?_
      change GoodS X fa W F F0 H0 ((g (setS as ρ') s').bnd _) Dn at q
      generalize g (setS as ρ') s' = rr at q
      cases rr with
      | bad => exact q
      | err e s'' => exact q
      | ok p s'' =>
        obtain ⟨fl, ρ5⟩ := p
        cases fl with
        | nx => exact fun σ5 F5 H5 A5 S5 => ⟨F5, A5, ρ5, s'', S5, q⟩
        | ct => exact fun σ5 F5 H5 A5 S5 => ⟨F5, A5, ρ5, s'', S5, q⟩
        | bk => exact q
        | rt d => exact q
  · rintro σ' H' ⟨F', A', ρ', s', S', q⟩
    rw [List.drop_length] at q
    exact q σ' F' H' A' S'
theorem sj_for (hp : PassesOwn (model X.prog X.w) X.A X.env X.xe) (hc : X.calm = true) (hi : IJ X fa (fun _ => W) tg iter it) (hg : TJ X tg ns b) (hb : SSJ X fa W body g) (hs : ∀ x, foldedSetIterable iter X.env x = pure x := by intro _; rfl) :
    SJ X fa W (.For tg iter body [] pos) (gFor it b g) := by
  obtain ⟨wi, pi, ki⟩ := hi
  obtain ⟨gt, pg, kg⟩ := hg
  obtain ⟨tb, pb, kb⟩ := hb
  refine ⟨_, ps_for hp hc pi pg pb hs, fun B F0 H0 F H A σ ρ s Dn S hgood => ?_⟩
  have S0 : SOk X.K fa B F0 H0 F H A (σ ++ []) (ρ ++ []) s := by rw [app0, app0]; exact S
  refine ki σ F H (mask ρ) s _ S.ext.fh S.fd (S0.mask S.len) ?_
  change GoodS X fa W B F0 H0 ((it (mask ρ) s).bnd _) Dn at hgood
  generalize it (mask ρ) s = r at hgood
  cases r with
  | bad => exact hgood
  | err e s' => exact fun cls dd F' H' e fo rx => hgood cls dd F' H' (S.ext.trans e) fo rx
  | ok xs s' => exact fun J F' H' e fo w => for_go (S.step e fo) w kg kb hgood
end

/-! ### uniform readings -/
/-- the widest reading of an expression that computes f -/
def tStar (X : Cx) (fa : Option FA) (W : L2.St → XK) (f : Env' → M D) : TE := fun σ H Q => ∃ F ρ s, Same F H ∧ FeedOk X.K fa F H s ∧ EnvOk X.K fa F σ ρ ∧ Good X fa (W σ) F H (f ρ s) Q
def tStarB (X : Cx) (fa : Option FA) (W : L2.St → XK) (f : Env' → M Bool) : TT := fun σ H Q => ∃ F ρ s, Same F H ∧ FeedOk X.K fa F H s ∧ EnvOk X.K fa F σ ρ ∧ GoodB X fa (W σ) F H (f ρ s) Q
def gStar (X : Cx) (ns : List Nat) (b : D → Option Asg) : TG := fun v σ H Q => ∃ (fa : Option FA) (F : Hp) (x : D) (as : Asg), Same F H ∧ Rep X.K fa F x v ∧ b x = some as ∧ ∀ ws, RepA X.K fa F as ws → as.map (·.1) = ns → Q (setV ws σ) H
section
variable {X Z : Cx} {fa : Option FA} {W : L2.St → XK} {e : Expr} {f : Env' → M D} {c : Env' → M Bool} {ns : List Nat} {b : D → Option Asg}
theorem ED.star (h : ED X fa W e f) : PE X e (tStar X fa W f) := by
  obtain ⟨t, p, k⟩ := h
  exact ⟨fun pins s σ H Q I ⟨F, ρ, s', h1, h2, h3, h4⟩ => p.run pins s σ H Q I (k σ F H ρ s' Q h1 h2 h3 h4)⟩
theorem TD.star (h : TD X fa W e c) : PT X e (tStarB X fa W c) := by
  obtain ⟨t, p, k⟩ := h
  exact ⟨fun pins s σ H Q I ⟨F, ρ, s', h1, h2, h3, h4⟩ => p.run pins s σ H Q I (k σ F H ρ s' Q h1 h2 h3 h4)⟩
theorem TJ.star (h : TJ X e ns b) : PG X e (gStar X ns b) := by
  obtain ⟨g, p, k⟩ := h
  exact ⟨fun pins s σ H v u Q I r ⟨fa, F, x, as, h1, h2, h3, h4⟩ => p.run pins s σ H v u Q I r (k fa F H x v σ Q as h1 h2 h3 h4)⟩
end

/-! ### comprehensions -/
def M.quiet {α : Type} (m : M α) : M α := fun s => match m s with
  | .err _ _ => .bad
  | r => r
def cYes : Env' → M Bool := fun _ => M.pure true
def lcE (b : D → Option Asg) (c : Env' → M Bool) (f : Env' → M D) : List D → Env' → M (List D)
  | [], _ => M.pure []
  | x :: xs, ρ => (M.lift (b x)).bind fun as => (c (setE as ρ)).bind fun k => if k = true then (f (setE as ρ)).bind fun y => (lcE b c f xs ρ).bind fun ys => M.pure (y :: ys) else lcE b c f xs ρ
def dLc (it : Env' → M (List D)) (b : D → Option Asg) (c : Env' → M Bool) (f : Env' → M D) : Env' → M (List D) := fun ρ => (it ρ).bind fun xs => if xs.length ≤ sizeLine then M.quiet (lcE b c f xs ρ) else M.bad
theorem bnd_ok {α β : Type} {r : Res α} {g : α → FS → Res β} {y : β} {s : FS} (h : r.bnd g = .ok y s) : ∃ x s1, r = .ok x s1 ∧ g x s1 = .ok y s := by
  cases r with
  | bad => cases h
  | err e s => cases h
  | ok x s1 => exact ⟨x, s1, rfl, h⟩
theorem lift_ok {α : Type} {o : Option α} {s s' : FS} {a : α} (h : M.lift o s = .ok a s') : o = some a ∧ s' = s := by
  cases o with
  | none => cases h
  | some b => cases h; exact ⟨rfl, rfl⟩
def PTsD (X : Cx) (fa : Option FA) (W : L2.St → XK) (ifs : List Expr) (c : Env' → M Bool) : Prop := PTs X ifs (tStarB X fa W c)
def Wno : L2.St → XK := fun _ _ _ _ => False
section
variable {X : Cx} {fa : Option FA} {W : XK} {Wσ : L2.St → XK}
theorem PTsD.star {ifs : List Expr} {c : Env' → M Bool} (h : PTsD X fa Wσ ifs c) : PTs X ifs (tStarB X fa Wσ c) := h
theorem ptd_nil : PTsD X fa Wσ [] cYes := ⟨fun pins s σ H Q I ⟨F, ρ, s', h1, h2, h3, h4⟩ => pts_nil.run pins s σ H Q I (h4 F H (Ext.refl h1) h2)⟩
theorem ptd_one {e : Expr} {c : Env' → M Bool} (h : TD X fa Wσ e c) : PTsD X fa Wσ [e] c := pts_one h.star

def wipeE (ρ : Env') : List Nat → Env'
  | [] => ρ
  | v :: vs => (wipeE ρ vs).set v none
theorem EnvOk.wipe {K : PySem.W.Frag} {F : Hp} {σ : L2.St} {ρ : Env'} (h : EnvOk K fa F σ ρ) : ∀ vs : List Nat, EnvOk K fa F (L2.wipe σ vs) (wipeE ρ vs)
  | [] => h
  | v :: vs => by
    have ih := EnvOk.wipe h vs
    refine ⟨by unfold L2.wipe wipeE; simpa using ih.len, fun i d e => ?_⟩
    unfold wipeE at e
    unfold L2.wipe
    by_cases hi : v = i
    · subst hi
      by_cases hl : v < (wipeE ρ vs).length
      · rw [List.getElem?_set_self hl] at e; cases e
      · rw [List.getElem?_eq_none (by simpa using hl)] at e; cases e
    · rw [List.getElem?_set_ne hi] at e
      rw [List.getElem?_set_ne hi]
      exact ih.at_ i d e
theorem setE_absorb : ∀ (as : Asg) (ρ : Env') (v : Nat) (o : Option D), v ∈ as.map (·.1) → setE as (ρ.set v o) = setE as ρ
  | [], _, _, _, h => by simp at h
  | (i, d) :: r, ρ, v, o, h => by
    unfold setE
    by_cases hi : i = v
    · subst hi
      rw [List.set_set]
    · have hr : v ∈ r.map (·.1) := by
        rcases List.mem_cons.mp h with e | e
        · exact absurd e.symm hi
        · exact e
      rw [List.set_comm _ _ (Ne.symm hi)]
      exact setE_absorb r _ v o hr
theorem setE_wipe (as : Asg) (ρ : Env') : ∀ vs : List Nat, (∀ v ∈ vs, v ∈ as.map (·.1)) → setE as (wipeE ρ vs) = setE as ρ
  | [], _ => rfl
  | v :: vs, h => by
    unfold wipeE
    rw [setE_absorb as _ v none (h v List.mem_cons_self)]
    exact setE_wipe as ρ vs fun u hu => h u (List.mem_cons_of_mem _ hu)
theorem wipe_set (σ : L2.St) (i : Nat) (o : Option V) : ∀ vs : List Nat, i ∈ vs → L2.wipe (σ.set i o) vs = L2.wipe σ vs
  | [], h => by simp at h
  | v :: vs, h => by
    unfold L2.wipe
    by_cases hv : i ∈ vs
    · rw [wipe_set σ i o vs hv]
    · have : i = v := by
        rcases List.mem_cons.mp h with e | e
        · exact e
        · exact absurd e hv
      subst this
      refine List.ext_getElem? fun j => ?_
      by_cases hj : i = j
      · subst hj
        by_cases hl : i < σ.length
        · rw [List.getElem?_set_self (by rw [wipe_length]; simpa using hl), List.getElem?_set_self (by rw [wipe_length]; exact hl)]
        · rw [List.getElem?_eq_none (by simp [wipe_length]; omega), List.getElem?_eq_none (by simp [wipe_length]; omega)]
      · rw [List.getElem?_set_ne hj, List.getElem?_set_ne hj]
        by_cases hjv : j ∈ vs
        · clear hv h
          induction vs with
          | nil => simp at hjv
          | cons u us ih =>
            unfold L2.wipe
            by_cases hu : u = j
            · subst hu
              by_cases hl : u < σ.length
              · rw [List.getElem?_set_self (by rw [wipe_length]; simpa using hl), List.getElem?_set_self (by rw [wipe_length]; exact hl)]
              · rw [List.getElem?_eq_none (by simp [wipe_length]; omega), List.getElem?_eq_none (by simp [wipe_length]; omega)]
            · rw [List.getElem?_set_ne hu, List.getElem?_set_ne hu]
              by_cases hm : j ∈ us
              · exact ih hm
              · rw [wipe_out hm, wipe_out hm, List.getElem?_set_ne hj]
        · rw [wipe_out hjv, wipe_out hjv, List.getElem?_set_ne hj]
theorem wipe_setV (vs : List Nat) : ∀ (ws : List (Nat × V)) (σ : L2.St), (∀ p ∈ ws, p.1 ∈ vs) → L2.wipe (setV ws σ) vs = L2.wipe σ vs
  | [], _, _ => rfl
  | (i, v) :: r, σ, h => by
    unfold setV
    rw [wipe_setV vs r _ fun p hp => h p (List.mem_cons_of_mem _ hp), wipe_set σ i _ vs (h (i, v) List.mem_cons_self)]
theorem wipe_wipe (σ : L2.St) (vs : List Nat) : ∀ us : List Nat, (∀ u ∈ us, u ∈ vs) → L2.wipe (L2.wipe σ us) vs = L2.wipe σ vs
  | [], _ => rfl
  | u :: us, h => by
    show L2.wipe ((L2.wipe σ us).set u none) vs = _
    rw [wipe_set _ u none vs (h u List.mem_cons_self)]
    exact wipe_wipe σ vs us fun x hx => h x (List.mem_cons_of_mem _ hx)
theorem RepA.ix {K : PySem.W.Frag} {F : Hp} {as : Asg} {ws : List (Nat × V)} (r : RepA K fa F as ws) : ws.map (·.1) = as.map (·.1) := by
  induction r with
  | nil => rfl
  | cons _ _ ih => simp [ih]
/-- the state of a comprehension's loop: its list at D holds acc -/
structure CSt (X : Cx) (fa : Option FA) (F1 H1 : Hp) (D' : Addr) (F H : Hp) (acc : List D) (s : FS) : Prop where
  ext : Ext fa F1 H1 F H
  fd : FeedOk X.K fa F H s
  fD : F D' = none
  nD : H1 D' = none
  nf : Nfa fa D'
  at_ : ∃ av, H D' = some (.lst av) ∧ RepL X.K fa F acc av
theorem CSt.step {F1 H1 F H F' H' : Hp} {D' : Addr} {acc : List D} {s s' : FS} (c : CSt X fa F1 H1 D' F H acc s) (e : Ext fa F H F' H') (fo : FeedOk X.K fa F' H' s') : CSt X fa F1 H1 D' F' H' acc s' := by
  obtain ⟨av, h, r⟩ := c.at_
  exact ⟨c.ext.trans e, fo, (e.fr D' (by rw [h]; simp)).trans c.fD, c.nD, c.nf, av, e.hh _ _ h c.nf, r.mono e.ff⟩
/-- one more item -/
theorem CSt.add {F1 H1 F H : Hp} {D' : Addr} {acc : List D} {s : FS} {y : D} {v : V} {av : List V} (c : CSt X fa F1 H1 D' F H acc s) (hD : H D' = some (.lst av)) (r : Rep X.K fa F y v) : CSt X fa F1 H1 D' F (upd H D' (.lst (av ++ [v]))) (acc ++ [y]) s := by
  obtain ⟨av', h, rl⟩ := c.at_
  rw [hD] at h
  cases h
  refine ⟨⟨c.ext.ff, fun b u z => ?_, fun b u z n => ?_, c.ext.fr, fun b z => ?_⟩, fun φ q => ?_, c.fD, c.nD, c.nf, _, upd_same, rl.append (.cons r .nil)⟩
  · rw [upd_ne (ne_of_none z c.fD)]; exact c.ext.fh b u z
  · rw [upd_ne (ne_of_none z c.nD)]; exact c.ext.hh b u z n
  · have : b ≠ D' := fun q => z (q ▸ c.nD)
    rw [upd_ne this]; exact c.ext.al b z
  · obtain ⟨g1, g2, g3, g4⟩ := c.fd φ q
    exact ⟨g1, g2, ⟨by rw [upd_ne (c.nf φ q).1]; exact g3.1, g3.2.upd hD (by first | exact noTab_lst _ | exact noTab_dK _ | exact noTab_ins _ _ _)⟩, g4⟩
theorem quiet_ok {α : Type} {m : M α} {s : FS} {P : Res α → Prop} (hb : ¬ P .bad) (h : P (M.quiet m s)) : ∃ a s', m s = .ok a s' ∧ P (.ok a s') := by
  unfold M.quiet at h
  cases e : m s with
  | bad => rw [e] at h; exact absurd h hb
  | err x s' => rw [e] at h; exact absurd h hb
  | ok a s' => rw [e] at h; exact ⟨a, s', rfl, h⟩
/-- the first clause's store and tests, of item x -/
theorem lc_turn {F1 H1 F H : Hp} {D' : Addr} {acc : List D} {s s1 : FS} {σ : L2.St} {ρ : Env'} {x : D} {v : V} {as : Asg} {k : Bool} {b : D → Option Asg} {c : Env' → M Bool} {vs ns : List Nat} {R : L2.St → Bool → Hp → Prop} (C : CSt X fa F1 H1 D' F H acc s) (en : EnvOk X.K fa F σ ρ)
    (r : Rep X.K fa F x v) (hb : b x = some as) (hc : c (setE as ρ) s = .ok k s1) (hin : ∀ n ∈ ns, n ∈ vs) (hni : ∀ n ∈ vs, n ∈ ns)
    (q : ∀ σ2 F2 H2, CSt X fa F1 H1 D' F2 H2 acc s1 → Same F F2 → EnvOk X.K fa F2 σ2 (setE as ρ) → EnvOk X.K fa F2 σ ρ → L2.wipe σ2 vs = L2.wipe σ vs → R σ2 k H2) :
    gStar X ns b v (L2.wipe σ vs) H fun σ2 H2 => L2.wipe σ2 vs = L2.wipe σ vs ∧ tStarB X fa Wno c σ2 H2 (R σ2) := by
  refine ⟨fa, F, x, as, C.ext.fh, r, hb, fun ws hw hn => ?_⟩
  have hwv : L2.wipe (setV ws (L2.wipe σ vs)) vs = L2.wipe σ vs := by
    rw [wipe_setV vs ws _ fun p hp => hin _ (by rw [← hn, ← hw.ix]; exact List.mem_map_of_mem hp), wipe_wipe σ vs vs fun _ h => h]
  have en2 : EnvOk X.K fa F (setV ws (L2.wipe σ vs)) (setE as ρ) := by
    have z := (en.wipe vs).setE hw
    rw [setE_wipe as ρ vs fun n h => by rw [hn]; exact hni n h] at z
    exact z
  refine ⟨hwv, F, setE as ρ, s, C.ext.fh, C.fd, en2, ?_⟩
  rw [hc]
  exact fun F' H' e fo => q _ F' H' (C.step e fo) e.ff (en2.mono e.ff) (en.mono e.ff) hwv
theorem nok_lc {tg iter elt : Expr} {it : Env' → M (List D)} {b : D → Option Asg} {c : Env' → M Bool} {f : Env' → M D} {wi : TI} {vs ns : List Nat} (ki : IOk X fa Wσ wi it) (hin : ∀ n ∈ ns, n ∈ vs) (hni : ∀ n ∈ vs, n ∈ ns) :
    NOk X fa Wσ (tLc wi (gStar X ns b) (tStarB X fa Wno c) (tStar X fa Wno f) vs) (dLc it b c f) := by
  intro σ F H ρ s Q h1 h2 h3 hg
  refine ki σ F H ρ s _ h1 h2 h3 ?_
  change GoodN X fa (Wσ σ) F H ((it ρ s).bnd _) Q at hg
  generalize it ρ s = r at hg
  cases r with
  | bad => exact hg
  | err e s' => exact hg
  | ok xs s0 =>
    intro J F1 H1 e1 o1 wj D' hD
    change GoodN X fa (Wσ σ) F H ((if xs.length ≤ sizeLine then M.quiet (lcE b c f xs ρ) else M.bad) s0) Q at hg
    by_cases hl : xs.length ≤ sizeLine
    · rw [if_pos hl] at hg
      obtain ⟨ys, s9, hys, hg⟩ := quiet_ok (P := fun r => GoodN X fa (Wσ σ) F H r Q) (fun z => z) hg
      obtain ⟨G, Y, wk, hG, hY⟩ := wj.ex
      have nf : Nfa fa D' := nfa_fresh o1 hD
      have fD : F1 D' = none := Same.free e1.fh hD
      have C0 : CSt X fa F1 H1 D' F1 (upd H1 D' (.lst [])) [] s0 := by
        refine ⟨⟨Same.refl _, fun b u z => ?_, fun b u z _ => ?_, fun _ _ => rfl, fun b z => ?_⟩, fun φ q => ?_, fD, hD, nf, [], upd_same, .nil⟩
        · rw [upd_ne (ne_of_none z fD)]; exact e1.fh b u z
        · rw [upd_ne (ne_of_none z hD)]; exact z
        · have : b ≠ D' := fun q => z (q ▸ hD)
          rw [upd_ne this]; exact z
        · obtain ⟨g1, g2, g3, g4⟩ := o1 φ q
          exact ⟨g1, g2, ⟨by rw [upd_ne (nf φ q).1]; exact g3.1, g3.2.updN hD⟩, g4⟩
      refine lc_it wk (fun i H' => ∃ F' acc s' zs, CSt X fa F1 H1 D' F' H' acc s' ∧ lcE b c f (xs.drop i) ρ s' = .ok zs s9 ∧ acc ++ zs = ys ∧ acc.length ≤ i) ⟨F1, [], s0, ys, C0, hys, rfl, Nat.zero_le _⟩ ?_ ?_ ?_
      · rintro i H' _ ⟨F', acc, s', zs, C, _⟩
        exact hG F' H' C.ext.ff C.ext.fh
      · rintro i x H' H3 hi ⟨F', acc, s', zs, C, hz, ha, hlen⟩ y
        have hx : xs[i]? = some xs[i] := List.getElem?_eq_getElem hi
        obtain ⟨F3, a1, a2, a3, a4, r⟩ := hY i _ F' H' x H3 hx C.ext.ff C.ext.fh y
        have C3 := C.step (ext_same a1 a2 a3 a4) (C.fd.ext_same a1 a3 a4)
        rw [List.drop_eq_getElem_cons hi] at hz
        change ((M.lift (b xs[i]) s').bnd _) = _ at hz
        obtain ⟨as, s1, hb0, hz1⟩ := bnd_ok hz
        obtain ⟨hb, es1⟩ := lift_ok hb0
        rw [es1] at hz1
        change ((c (setE as ρ) s').bnd _) = _ at hz1
        obtain ⟨k, s2, hc, hz2⟩ := bnd_ok hz1
        refine lc_turn C3 (h3.mono (e1.ff.trans (C.ext.ff.trans a1))) r hb hc hin hni fun σ2 F4 H4 C4 e34 en2 en hw => ?_
        cases k with
        | false =>
          refine iteF ⟨F4, acc, s2, zs, C4, ?_, ha, by omega⟩
          rw [if_neg Bool.false_ne_true] at hz2
          exact hz2
        | true =>
          rw [if_pos rfl] at hz2
          change ((f (setE as ρ) s2).bnd _) = _ at hz2
          obtain ⟨y', s3, hf, hz3⟩ := bnd_ok hz2
          change ((lcE b c f (xs.drop (i + 1)) ρ s3).bnd _) = _ at hz3
          obtain ⟨zs', s4, hz4, hq⟩ := bnd_ok hz3
          cases hq
          refine iteT ⟨F4, setE as ρ, s2, C4.ext.fh, C4.fd, en2, ?_⟩
          rw [hf]
          intro w F5 H5 e5 o5 r5
          have C5 := C4.step e5 o5
          obtain ⟨av, hD5, rl⟩ := id C5.at_
          refine ⟨av, hD5, by rw [← rl.length]; omega, F5, acc ++ [y'], s3, zs', C5.add hD5 r5, hz4, by rw [List.append_assoc]; exact ha, by simp; omega⟩
      · rintro H' ⟨F', acc, s', zs, C, hz, ha, hlen⟩
        rw [List.drop_length] at hz
        cases hz
        rw [List.append_nil] at ha
        subst ha
        obtain ⟨av, hD', rl⟩ := C.at_
        refine hg D' av F' H' (e1.trans C.ext) C.fd ?_ C.fD hD' rl
        cases z : H D' with
        | none => rfl
        | some u => exact absurd hD (e1.al D' (by rw [z]; simp))
    · rw [if_neg hl] at hg
      exact hg.elim
/-- [elt for tg in iter if ..] -/
theorem nd_lc {tg iter elt : Expr} {ifs : List Expr} {scope : Scope} {own : List (Str × Nat)} {pos : Pos} {it : Env' → M (List D)} {b : D → Option Asg} {c : Env' → M Bool} {f : Env' → M D} {ns : List Nat} (hc : X.calm = true) (hN : X.N.Nodup) (hi : IJ X fa Wσ tg iter it) (ok : BlkOk X.N X.env.scope scope own)
    (hin : ∀ n ∈ ns, n ∈ own.map (·.2)) (hni : ∀ n ∈ own.map (·.2), n ∈ ns)
    (hg : ∀ (s : Shared) (H : Hp) (C : Addr) (cl : List (Str × Addr)) (fp : List Addr), TJ (X.blk s H scope (compEnvC scope cl C X.env) fp) tg ns b) (ht : ∀ (s : Shared) (H : Hp) (C : Addr) (cl : List (Str × Addr)) (fp : List Addr), PTsD (X.blk s H scope (compEnvC scope cl C X.env) fp) fa Wno ifs c)
    (he : ∀ (s : Shared) (H : Hp) (C : Addr) (cl : List (Str × Addr)) (fp : List Addr), ED (X.blk s H scope (compEnvC scope cl C X.env) fp) fa Wno elt f) (hs : ∀ x, foldedSetIterable iter X.env x = pure x := by intro _; rfl) :
    ND X fa Wσ (.ListComp elt [⟨tg, iter, ifs, 0⟩] scope pos) (dLc it b c f) := by
  obtain ⟨wi, pi, ki⟩ := hi
  exact ⟨_, pe_lc hc hN pi ok (fun s H C cl fp => (hg s H C cl fp).star) (tt := tStarB X fa Wno c) (fun s H C cl fp => (ht s H C cl fp).star) (fun s H C cl fp => (he s H C cl fp).star) hs, nok_lc (tg := tg) (iter := iter) (elt := elt) ki hin hni⟩
/-- y = [..] -/
theorem sj_setLc {tg iter elt : Expr} {ifs : List Expr} {scope : Scope} {own : List (Str × Nat)} {pos spos py : Pos} {i : Nat} {y : Str} {it : Env' → M (List D)} {b : D → Option Asg} {c : Env' → M Bool} {f : Env' → M D} {ns : List Nat} (hc : X.calm = true) (hN : X.N.Nodup)
    (hi : IJ X fa (fun _ => W) tg iter it) (ok : BlkOk X.N X.env.scope scope own) (hin : ∀ n ∈ ns, n ∈ own.map (·.2)) (hni : ∀ n ∈ own.map (·.2), n ∈ ns)
    (hg : ∀ (s : Shared) (H : Hp) (C : Addr) (cl : List (Str × Addr)) (fp : List Addr), TJ (X.blk s H scope (compEnvC scope cl C X.env) fp) tg ns b) (ht : ∀ (s : Shared) (H : Hp) (C : Addr) (cl : List (Str × Addr)) (fp : List Addr), PTsD (X.blk s H scope (compEnvC scope cl C X.env) fp) fa Wno ifs c)
    (he : ∀ (s : Shared) (H : Hp) (C : Addr) (cl : List (Str × Addr)) (fp : List Addr), ED (X.blk s H scope (compEnvC scope cl C X.env) fp) fa Wno elt f)
    (hy : X.N[i]? = some y := by rfl) (hyl : X.env.scope.names.lookup y = some .local := by rfl) (hsw : swapsWith (.ListComp elt [⟨tg, iter, ifs, 0⟩] scope pos) (some (.Name y py)) spos.line X.env = pure true := by exact sw_true rfl rfl rfl (by decide +kernel)) (hs : ∀ x, foldedSetIterable iter X.env x = pure x := by intro _; rfl) :
    SJ X fa W (.Assign [.Name y py] (.ListComp elt [⟨tg, iter, ifs, 0⟩] scope pos) spos) (gSet i (vNew (dLc it b c f))) := by
  obtain ⟨wi, pi, ki⟩ := hi
  exact sj_asg (ps_setLc hc hN hy hyl hsw pi ok (fun s H C cl fp => (hg s H C cl fp).star) (tt := tStarB X fa Wno c) (fun s H C cl fp => (ht s H C cl fp).star) (fun s H C cl fp => (he s H C cl fp).star) hs) (vok_new (nok_lc (tg := tg) (iter := iter) (elt := elt) ki hin hni))
end
end DL

set_option Elab.async false
set_option linter.all false
set_option maxRecDepth 100000
set_option maxHeartbeats 2000000
/-! The data layer: owned lists and dicts changed; several targets. -/
namespace DL
open PySem PySem.Spec PyProof.Rows L2

section
variable {K : PySem.W.Frag} {fa : Option FA} {B F0 H0 F H : Hp} {A : Nat → Addr} {s : FS}
theorem SOk.pre {σ us : L2.St} {ρ es : Sts} (S : SOk K fa B F0 H0 F H A (σ ++ us) (ρ ++ es) s) (hl : σ.length = ρ.length) : SOk K fa B F0 H0 F H A σ ρ s := by
  refine ⟨S.ext, S.flr, S.fd, hl, fun i e h => ?_, fun i j e e' h h' => S.inj i j e e' (app_get h) (app_get h')⟩
  have z := S.slot i e (app_get h)
  rw [List.getElem?_append_left (by rw [hl]; exact (List.getElem?_eq_some_iff.mp h).1)] at z
  exact z
theorem RepL.of_get : ∀ {ds : List D} {ws : List V}, ds.length = ws.length → (∀ (k : Nat) d, ds[k]? = some d → ∃ w, ws[k]? = some w ∧ Rep K fa F d w) → RepL K fa F ds ws
  | [], [], _, _ => .nil
  | [], _ :: _, h, _ => by cases h
  | _ :: _, [], h, _ => by cases h
  | d :: ds, w :: ws, h, g => by
    obtain ⟨w', e, r⟩ := g 0 d rfl
    cases e
    exact .cons r (RepL.of_get (by simpa using h) fun k d' hd => g (k + 1) d' hd)
/-- the data on the stack -/
theorem SOk.top {σ : L2.St} {ρ : Sts} {ds : List D} {ws : List V} (S : SOk K fa B F0 H0 F H A (σ ++ ws.map some) (ρ ++ ds.map EV.d) s) (hl : σ.length = ρ.length) : RepL K fa F ds ws := by
  have hlen := S.len
  simp only [List.length_append, List.length_map] at hlen
  refine RepL.of_get (by omega) fun k d hd => ?_
  have hk : k < ds.length := (List.getElem?_eq_some_iff.mp hd).1
  have z := S.slot (ρ.length + k) (.d d) (by rw [List.getElem?_append_right (by omega), Nat.add_sub_cancel_left, List.getElem?_map, hd]; rfl)
  obtain ⟨v, e, r⟩ := z
  rw [List.getElem?_append_right (by omega), hl, Nat.add_sub_cancel_left, List.getElem?_map] at e
  cases q : ws[k]? with
  | none => rw [q] at e; cases e
  | some w =>
    rw [q] at e
    cases e
    exact ⟨_, rfl, r⟩
end

/-! ### lists of values at a statement -/
def GoodLV (X : Cx) (fa : Option FA) (W : XK) (B F0 H0 : Hp) (σ vs : L2.St) (evs : Sts) (r : Res (List D × Sts)) (Q : List V → Hp → Prop) : Prop :=
  match r with
  | .bad => False
  | .ok p s' => ∀ ws F' H' A', SOk X.K fa B F0 H0 F' H' A' (σ ++ vs ++ ws.map some) (p.2 ++ evs ++ p.1.map EV.d) s' → ws.length = p.1.length → Q ws H'
  | .err e s' => ∀ cls dd F' H', Ext fa F0 H0 F' H' → FeedOk X.K fa F' H' s' → RepX X.K X.mg fa F' H' e cls dd → W cls dd H'
def LVOk (X : Cx) (fa : Option FA) (W : XK) (t : TA) (f : Sts → M (List D × Sts)) : Prop :=
  ∀ (B F0 H0 F H : Hp) (A : Nat → Addr) (σ vs : L2.St) (ρ evs : Sts) (s : FS) (Q : List V → Hp → Prop), σ.length = ρ.length → SOk X.K fa B F0 H0 F H A (σ ++ vs) (ρ ++ evs) s → GoodLV X fa W B F0 H0 σ vs evs (f ρ s) Q → t σ H Q
def LVJ (X : Cx) (fa : Option FA) (W : XK) (es : List Expr) (f : Sts → M (List D × Sts)) : Prop := ∃ t, PA X es t ∧ LVOk X fa W t f
def lvNil : Sts → M (List D × Sts) := fun ρ => M.pure ([], ρ)
def lvCons (f : Sts → M (EV × Sts)) (g : Sts → M (List D × Sts)) : Sts → M (List D × Sts) := fun ρ => (f ρ).bind fun p => match p.1 with
  | .d x => (g p.2).bind fun q => M.pure (x :: q.1, q.2)
  | _ => M.bad
section
variable {X : Cx} {fa : Option FA} {W : XK} {a b c e o : Expr} {es rest : List Expr} {pos p apos cpos : Pos} {f fv : Sts → M (EV × Sts)} {fl : Sts → M (List D × Sts)}
theorem GoodLV.tgt {B F0 H0 : Hp} {σ vs : L2.St} {evs : Sts} {Q : List V → Hp → Prop} : TgtV X fa W F0 H0 (fun r => GoodLV X fa W B F0 H0 σ vs evs r Q) := ⟨fun h => h, fun _ _ h => h⟩
theorem lvj_nil : LVJ X fa W [] lvNil := ⟨_, pa_nil, fun B F0 H0 F H A σ vs ρ evs s Q hl S h => h [] F H A (by simpa using S) rfl⟩
theorem LVOk.then {t : TA} {β : Type} {g : List D × Sts → M β} {G : Res β → Prop} {B F0 H0 F H : Hp} {A : Nat → Addr} {σ vs : L2.St} {ρ evs : Sts} {s : FS} {Q : List V → Hp → Prop} (h : LVOk X fa W t fl) (T : TgtV X fa W F0 H0 G) (hl : σ.length = ρ.length)
    (S : SOk X.K fa B F0 H0 F H A (σ ++ vs) (ρ ++ evs) s) (hg : G ((fl ρ s).bnd g))
    (k : ∀ ds ρ' s' ws F' H' A', SOk X.K fa B F0 H0 F' H' A' (σ ++ vs) (ρ' ++ evs) s' → σ.length = ρ'.length → ws.length = ds.length → RepL X.K fa F' ds ws → G (g (ds, ρ') s') → Q ws H') : t σ H Q := by
  refine h B F0 H0 F H A σ vs ρ evs s Q hl S ?_
  generalize fl ρ s = r at hg
  cases r with
  | bad => exact absurd hg T.bad
  | err e s' => exact T.err e s' hg
  | ok q s' =>
    intro w F' H' A' S' hw
    have l1 := S'.len
    have l2 := S.len
    simp only [List.length_append, List.length_map] at l1 l2
    have l3 : (σ ++ vs).length = (q.2 ++ evs).length := by simp only [List.length_append]; omega
    exact k q.1 q.2 s' w F' H' A' (S'.pre l3) (by omega) hw (S'.top l3) hg
theorem lvj_cons (ha : VJ X fa W e f) (hr : LVJ X fa W es fl) (hs : starEach (e :: es) X.env = (false, eval e X.env) :: starEach es X.env := by rfl) : LVJ X fa W (e :: es) (lvCons f fl) := by
  obtain ⟨ta, pa, ka⟩ := ha
  obtain ⟨tr, pr, kr⟩ := hr
  refine ⟨_, pa_cons pa pr hs, fun B F0 H0 F H A σ vs ρ evs s Q hl S h => ?_⟩
  refine ka.then GoodLV.tgt hl S h fun ev ρ' s' w F' H' A' S' hl' h' => ?_
  cases ev with
  | d x =>
    rw [List.append_assoc, List.append_assoc] at S'
    have e2 : ∀ r, GoodLV X fa W B F0 H0 σ vs evs (Res.bnd r fun q => M.pure (x :: q.1, q.2)) Q → GoodLV X fa W B F0 H0 σ (vs ++ [some w]) (evs ++ [.d x]) r (fun ws H => Q (w :: ws) H) := fun r hr => by
      cases r with
      | bad => exact hr
      | err e s => exact hr
      | ok q s =>
        refine fun ws F2 H2 A2 S2 hw => hr (w :: ws) F2 H2 A2 ?_ (by simpa using hw)
        have e3 : σ ++ vs ++ (w :: ws).map some = σ ++ (vs ++ [some w]) ++ ws.map some := by simp
        have e4 : q.2 ++ evs ++ (x :: q.1).map EV.d = q.2 ++ (evs ++ [.d x]) ++ q.1.map EV.d := by simp
        show SOk X.K fa B F0 H0 F2 H2 A2 (σ ++ vs ++ (w :: ws).map some) (q.2 ++ evs ++ (x :: q.1).map EV.d) s
        rw [e3, e4]
        exact S2
    exact kr B F0 H0 F' H' A' σ (vs ++ [some w]) ρ' (evs ++ [.d x]) s' _ hl' S' (e2 _ h')
  | _ => exact h'.elim

/-! ### methods of an owned list -/
/-- the method's reading does mo: the content and the arguments give a result and a new content -/
def MoOk (X : Cx) (r : V → List V → Hp → VK → Prop) (mo : List D → List D → Option (D × List D)) : Prop :=
  ∀ (fa : Option FA) (F H : Hp) (p : Addr) (vs : List V) (xs as : List D) (ws : List V) (Q : VK) (d : D) (xs' : List D), H p = some (.lst vs) → RepL X.K fa F xs vs → RepL X.K fa F as ws → mo xs as = some (d, xs') →
    (∀ v vs', RepL X.K fa F xs' vs' → Rep X.K fa F d v → Q v (upd H p (.lst vs'))) → r (.ref p) ws H Q
def vMt (i : Nat) (mo : List D → List D → Option (D × List D)) (fl : Sts → M (List D × Sts)) : Sts → M (EV × Sts) := fun ρ => match ρ[i]? with
  | some (.ol _) => (fl ρ).bind fun q => match q.2[i]? with
    | some (.ol xs) => (M.lift (mo xs q.1)).bind fun z => M.pure (.d z.1, q.2.set i (.ol z.2))
    | _ => M.bad
  | _ => M.bad
theorem SOk.mutate {K : PySem.W.Frag} {B F0 H0 F H : Hp} {A : Nat → Addr} {σ vs : L2.St} {ρ evs : Sts} {s : FS} {i : Nat} {xs xs' : List D} {vs' : List V} {d : D} {v : V} (S : SOk K fa B F0 H0 F H A (σ ++ vs) (ρ ++ evs) s) (h : ρ[i]? = some (.ol xs)) (r : RepL K fa F xs' vs') (rd : Rep K fa F d v) :
    SOk K fa B F0 H0 F (upd H (A i) (.lst vs')) A (σ ++ vs ++ [some v]) (ρ.set i (.ol xs') ++ evs ++ [.d d]) s := by
  have hi : i < ρ.length := (List.getElem?_eq_some_iff.mp h).1
  obtain ⟨h1, h2, h3, h4, h5⟩ := (S.slot i _ (app_get h)).own_at rfl
  have S1 := S.write (ev' := .ol xs') (o := .lst vs') (app_get h) rfl rfl ⟨rfl, h2, h3, h4, vs', upd_same, r⟩
  rw [List.set_append_left _ _ hi] at S1
  exact S1.push rd
theorem vj_mt {i : Nat} {x m : Str} {id : String} {r : V → List V → Hp → VK → Prop} {mo : List D → List D → Option (D × List D)} (slot : Slot "list" m id) (hty : typeOf (.builtin id) = pure (.type "method_descriptor")) (hm : MtR X id r) (ok : MoOk X r mo) (hl : LVJ X fa W (e :: es) fl)
    (ho : PE X (.Name x p) (tVar i)) (hbase : attributeBase (.Name x p) m X.env (eval (.Name x p) X.env) = eval (.Name x p) X.env := by rfl)
    (hfew : ((backTo cpos (starEach (e :: es) X.env)).all (fun x => !x.1) && (backToKw cpos (keywordEach [] X.env)).all (fun x => x.1.isSome) && decide ((e :: es).length + ([] : List Keyword).length + (if ([] : List Keyword).isEmpty then 0 else 1) < 30)) = true := by rfl)
    (hline : (apos.endLine == cpos.line) = true := by rfl) (hs : starEach (e :: es) X.env = (false, eval e X.env) :: starEach es X.env := by rfl) (hplain : (backTo cpos (starEach es X.env)).any (·.1) = false := by rfl) :
    VJ X fa W (.Call (.Attribute (.Name x p) m apos) (e :: es) [] cpos) (vMt i mo fl) := by
  obtain ⟨tl, pl, kl⟩ := hl
  refine ⟨_, pe_bm PySem.F.plainAttrs_list slot hty hm ho pl hbase hfew hline hs hplain, fun B F0 H0 F H A σ vs ρ evs s Q hl S hg => ?_⟩
  unfold vMt at hg
  cases e1 : ρ[i]? with
  | none => rw [e1] at hg; exact hg.elim
  | some ev =>
    cases ev with
    | ol xs0 =>
      rw [e1] at hg
      obtain ⟨w0, f0, g0, n0, vs0, q0, r0⟩ := S.slot i _ (app_get e1)
      have hi : i < σ.length := by rw [hl]; exact (List.getElem?_eq_some_iff.mp e1).1
      rw [List.getElem?_append_left hi] at w0
      have w1 := join_some w0
      refine ⟨_, w1, .inl ⟨rfl, _, SqL.of q0⟩, ?_⟩
      refine kl.then GoodV.tgt hl S hg fun ds ρ' s' ws F' H' A' S' hl' hw rl h' => ?_
      change GoodV X fa W B F0 H0 σ vs evs ((match ρ'[i]? with
        | some (.ol xs) => (M.lift (mo xs ds)).bind fun z => M.pure (.d z.1, ρ'.set i (.ol z.2))
        | _ => M.bad : M (EV × Sts)) s') Q at h'
      cases e2 : ρ'[i]? with
      | none => rw [e2] at h'; exact h'.elim
      | some ev2 =>
        cases ev2 with
        | ol xs =>
          rw [e2] at h'
          obtain ⟨w2, f2, g2, n2, vs2, q2, r2⟩ := S'.slot i _ (app_get e2)
          rw [List.getElem?_append_left hi] at w2
          have w3 := join_some w2
          rw [w1] at w3
          have ea : A i = A' i := by
            injection w3 with w3
            injection w3 with w3
            injection w3
          change GoodV X fa W B F0 H0 σ vs evs (((M.lift (mo xs ds)).bind _) s') Q at h'
          cases e3 : mo xs ds with
          | none => rw [e3] at h'; exact h'.elim
          | some z =>
            rw [e3] at h'
            obtain ⟨d, xs'⟩ := z
            rw [ea]
            exact ok fa F' H' (A' i) vs2 xs ds ws _ d xs' q2 r2 rl e3 fun v vs' rx rd => h' v F' _ A' (S'.mutate e2 rx rd)
        | _ => rw [e2] at h'; exact h'.elim
    | _ => rw [e1] at hg; exact hg.elim
theorem vj_mt0 {i : Nat} {x m : Str} {id : String} {r : V → List V → Hp → VK → Prop} {mo : List D → List D → Option (D × List D)} (slot : Slot "list" m id) (hty : typeOf (.builtin id) = pure (.type "method_descriptor")) (hm : MtR X id r) (ok : MoOk X r mo)
    (ho : PE X (.Name x p) (tVar i)) (hbase : attributeBase (.Name x p) m X.env (eval (.Name x p) X.env) = eval (.Name x p) X.env := by rfl) (hline : (apos.endLine == cpos.line) = true := by rfl) :
    VJ X fa W (.Call (.Attribute (.Name x p) m apos) [] [] cpos) (vMt i mo lvNil) := by
  refine ⟨_, pe_bm0 PySem.F.plainAttrs_list slot hty hm ho hbase hline, fun B F0 H0 F H A σ vs ρ evs s Q hl S hg => ?_⟩
  unfold vMt at hg
  cases e1 : ρ[i]? with
  | none => rw [e1] at hg; exact hg.elim
  | some ev =>
    cases ev with
    | ol xs =>
      rw [e1] at hg
      change GoodV X fa W B F0 H0 σ vs evs ((match ρ[i]? with
        | some (.ol xs) => (M.lift (mo xs [])).bind fun z => M.pure (.d z.1, ρ.set i (.ol z.2))
        | _ => M.bad : M (EV × Sts)) s) Q at hg
      rw [e1] at hg
      obtain ⟨w0, f0, g0, n0, vs0, q0, r0⟩ := S.slot i _ (app_get e1)
      have hi : i < σ.length := by rw [hl]; exact (List.getElem?_eq_some_iff.mp e1).1
      rw [List.getElem?_append_left hi] at w0
      refine ⟨_, join_some w0, .inl ⟨rfl, _, SqL.of q0⟩, ?_⟩
      change GoodV X fa W B F0 H0 σ vs evs (((M.lift (mo xs [])).bind _) s) Q at hg
      cases e3 : mo xs [] with
      | none => rw [e3] at hg; exact hg.elim
      | some z =>
        rw [e3] at hg
        obtain ⟨d, xs'⟩ := z
        exact ok fa F H (A i) vs0 xs [] [] _ d xs' q0 r0 .nil e3 fun v vs' rx rd => hg v F _ A (S.mutate e1 rx rd)
    | _ => rw [e1] at hg; exact hg.elim
def moAppend : List D → List D → Option (D × List D)
  | xs, [y] => if xs.length < sizeLine then some (.non, xs ++ [y]) else none
  | _, _ => none
theorem ok_append : MoOk X rAppend moAppend := by
  intro fa F H p vs xs as ws Q d xs' h r ra e k
  cases ra with
  | nil => cases e
  | cons ry rr =>
    cases rr with
    | cons _ _ => cases e
    | nil =>
      rename_i y w
      by_cases hz : xs.length < sizeLine
      · rw [show moAppend xs [y] = some (.non, xs ++ [y]) from if_pos hz] at e
        cases e
        exact ⟨p, vs, w, rfl, rfl, h, by rw [← r.length]; exact hz, k _ _ (r.append (.cons ry .nil)) .non⟩
      · rw [show moAppend xs [y] = none from if_neg hz] at e
        cases e
def moInsert : List D → List D → Option (D × List D)
  | xs, [.int i, y] => if xs.length < sizeLine ∧ 0 ≤ i ∧ i < 2 ^ 63 then some (.non, xs.take i.toNat ++ [y] ++ xs.drop i.toNat) else none
  | _, _ => none
theorem ok_insert : MoOk X (fun x vs H Q => ∃ (l : Addr) (xs : List V) (i : Int) (y : V), x = .ref l ∧ vs = [.int i, y] ∧ H l = some (.lst xs) ∧ xs.length < sizeLine ∧ 0 ≤ i ∧ i < 2 ^ 63 ∧ Q .non (upd H l (.lst (xs.take i.toNat ++ [y] ++ xs.drop i.toNat)))) moInsert := by
  intro fa F H p vs xs as ws Q d xs' h r ra e k
  cases ra with
  | nil => cases e
  | cons ri rr =>
    cases rr with
    | nil => cases ri <;> cases e
    | cons ry r3 =>
      cases r3 with
      | cons _ _ => cases ri <;> cases e
      | nil =>
        rename_i y w
        cases ri with
        | int i =>
          by_cases hz : xs.length < sizeLine ∧ 0 ≤ i ∧ i < 2 ^ 63
          · rw [show moInsert xs [.int i, y] = some (.non, xs.take i.toNat ++ [y] ++ xs.drop i.toNat) from if_pos hz] at e
            cases e
            exact ⟨p, vs, i, w, rfl, rfl, h, by rw [← r.length]; exact hz.1, hz.2.1, hz.2.2, k _ _ (((r.take _).append (.cons ry .nil)).append (r.drop _)) .non⟩
          · rw [show moInsert xs [.int i, y] = none from if_neg hz] at e
            cases e
        | _ => cases e
/-- pop(i), 0 ≤ i below the length -/
def moPopAt : List D → List D → Option (D × List D)
  | xs, [.int i] => if 0 ≤ i ∧ i < 2 ^ 63 then (xs[i.toNat]?).map fun y => (y, xs.eraseIdx i.toNat) else none
  | _, _ => none
theorem RepL.eraseIdx {K : PySem.W.Frag} {F : Hp} : ∀ {ds : List D} {vs : List V} (i : Nat), RepL K fa F ds vs → RepL K fa F (ds.eraseIdx i) (vs.eraseIdx i)
  | _, _, _, .nil => .nil
  | _, _, 0, .cons _ t => t
  | _, _, i + 1, .cons r t => .cons r (RepL.eraseIdx i t)
theorem seqIndex_nat {n : Nat} {i : Int} (h0 : 0 ≤ i) (h : i.toNat < n) : seqIndex? i n = some i.toNat := by
  have z : ixN n i = some i.toNat := by
    unfold ixN
    rw [if_pos h0, if_pos (by omega)]
  exact (ixN_seq z).1
theorem ok_popAt : MoOk X rPopAt moPopAt := by
  intro fa F H p vs xs as ws Q d xs' h r ra e k
  cases ra with
  | nil => cases e
  | cons ri rr =>
    cases rr with
    | cons _ _ => cases ri <;> cases e
    | nil =>
      cases ri with
      | int i =>
        by_cases hz : 0 ≤ i ∧ i < 2 ^ 63
        · rw [show moPopAt xs [.int i] = (xs[i.toNat]?).map fun y => (y, xs.eraseIdx i.toNat) from if_pos hz] at e
          cases q : xs[i.toNat]? with
          | none => rw [q] at e; cases e
          | some y =>
            rw [q] at e
            cases e
            obtain ⟨w, hw, rw'⟩ := r.get' q
            have hlt : i.toNat < vs.length := (List.getElem?_eq_some_iff.mp hw).1
            exact ⟨p, vs, i, i.toNat, w, rfl, rfl, h, by omega, hz.2, seqIndex_nat hz.1 hlt, hw, k _ _ (r.eraseIdx _) rw'⟩
        · rw [show moPopAt xs [.int i] = none from if_neg hz] at e
          cases e
      | _ => cases e
end
end DL

set_option Elab.async false
set_option linter.all false
set_option maxRecDepth 100000
set_option maxHeartbeats 2000000
/-! The data layer: stores, several targets. -/
namespace DL
open PySem PySem.Spec PyProof.Rows L2

def gAsgT (b : D → Option Asg) (f : Sts → M (EV × Sts)) : Sts → M (Fl × Sts) := fun ρ => (f ρ).bind fun p => match p.1 with
  | .d x => (M.lift (b x)).bind fun as => M.pure (.nx, setS as p.2)
  | _ => M.bad
def gPar (i j : Nat) (f g : Sts → M (EV × Sts)) : Sts → M (Fl × Sts) := fun ρ => if i < ρ.length ∧ j < ρ.length then (f ρ).bind fun p => (g p.2).bind fun q => M.pure (.nx, (q.2.set i p.1).set j q.1) else M.bad
def gPar3 (i j l : Nat) (f g h : Sts → M (EV × Sts)) : Sts → M (Fl × Sts) := fun ρ => if i < ρ.length ∧ j < ρ.length ∧ l < ρ.length then (f ρ).bind fun p => (g p.2).bind fun q => (h q.2).bind fun r => M.pure (.nx, ((r.2.set i p.1).set j q.1).set l r.1) else M.bad
def keyD : D → Option Key
  | .int i => some (.inl i)
  | .str x => some (.inr x)
  | _ => none
def putD (xs : List (Key × D)) (k : Key) (v : D) : List (Key × D) :=
  if (xs.any fun kv => decide (kv.1 = k)) = true then xs.map (fun kv => if kv.1 = k then (kv.1, v) else kv) else xs ++ [(k, v)]
/-- x[k] = v of an owned list at slot i -/
def gStL (i : Nat) (fv fk : Sts → M (EV × Sts)) : Sts → M (Fl × Sts) := fun ρ => (fv ρ).bind fun p => match p.2[i]? with
  | some (.ol _) => (fk p.2).bind fun q => match p.1, q.1, q.2[i]? with
    | .d y, .d (.int k), some (.ol xs) => (M.lift (ixN xs.length k)).bind fun j => M.pure (.nx, q.2.set i (.ol (xs.set j y)))
    | _, _, _ => M.bad
  | _ => M.bad
/-- x[k] = v of an owned dict at slot i -/
def gStD (i : Nat) (fv fk : Sts → M (EV × Sts)) : Sts → M (Fl × Sts) := fun ρ => (fv ρ).bind fun p => match p.2[i]? with
  | some (.od _) => (fk p.2).bind fun q => match p.1, q.1, q.2[i]? with
    | .d y, .d kk, some (.od xs) => (M.lift (keyD kk)).bind fun k => if xs.length < sizeLine then M.pure (.nx, q.2.set i (.od (putD xs k y))) else M.bad
    | _, _, _ => M.bad
  | _ => M.bad
section
variable {X : Cx} {fa : Option FA} {W : XK} {a b c e o tg : Expr} {es rest : List Expr} {pos p apos cpos px py pz pt : Pos} {f g h fv fk : Sts → M (EV × Sts)} {ns : List Nat} {bb : D → Option Asg} {B F0 H0 F H : Hp} {s : FS}
/-- targets = a value -/
theorem sj_asgT (hv : VJ X fa W e f) (hg : TJ X tg ns bb) (hs : swapsWithSole [tg] e pos.line X.env = pure false := by rfl) (hw : swappedStores [tg] e X.env = pure none := by rfl) (h1 : (assignEach [tg] X.env).map (·.2) = [assign tg X.env] := by rfl) : SJ X fa W (.Assign [tg] e pos) (gAsgT bb f) := by
  obtain ⟨t, p, k⟩ := hv
  obtain ⟨gt, pg, kg⟩ := hg
  refine ⟨_, ps_asg p pg hs hw h1, fun B F0 H0 F H A σ ρ s Dn S hgood => ?_⟩
  refine k.then (vs := []) (evs := []) GoodS.tgt S.len (by rw [app0, app0]; exact S) hgood fun ev ρ' s' w F' H' A' S' hl h' => ?_
  rw [app0, app0] at S'
  cases ev with
  | d x =>
    change GoodS X fa W B F0 H0 (((M.lift (bb x)).bind _) s') Dn at h'
    cases q : bb x with
    | none => rw [q] at h'; exact h'.elim
    | some as =>
      rw [q] at h'
      have S2 := S'.drop hl
      have S1 : SOk X.K fa B F0 H0 F' H' A' (σ ++ [w].map some) (ρ' ++ [x].map EV.d) s' := S'
      have rl := S1.top hl
      cases rl with
      | cons r _ =>
        refine kg fa F' H' x w σ _ as S2.ext.fh r q fun ws hws _ => ?_
        obtain ⟨A2, S3⟩ := S2.setS hws
        exact h' _ F' H' A2 S3
  | _ => exact h'.elim
theorem two_pop {A : Nat → Addr} {σ : L2.St} {ρ : Sts} {u v : V} {eu ev : EV} {K : PySem.W.Frag} (S : SOk K fa B F0 H0 F H A (σ ++ [some u] ++ [some v]) (ρ ++ [eu] ++ [ev]) s) (hl : σ.length = ρ.length) {i j : Nat} (hij : i ≠ j) (hi : i < ρ.length) (hj : j < ρ.length) :
    ∃ A', SOk K fa B F0 H0 F H A' ((σ.set i (some u)).set j (some v)) ((ρ.set i eu).set j ev) s := by
  have S1 := S.pop (by simp [hl]) j
  rw [List.set_append_left _ _ (by omega), List.set_append_left _ _ (by omega)] at S1
  have S2 := S1.pop (by simp [hl]) i
  rw [List.set_comm _ _ (Ne.symm hij), List.set_comm _ _ (Ne.symm hij)] at S2
  exact ⟨_, S2⟩
theorem sj_par {i j : Nat} {x y : Str} {kt : Nat} {k2 : Nat} {pt2 : Pos} (hc : X.calm = true) (hN : X.N.Nodup) (ha : VJ X fa W a f) (hb : VJ X fa W b g) (hi : X.N[i]? = some x := by rfl) (hj : X.N[j]? = some y := by rfl) (hij : i ≠ j := by decide)
    (hx : X.env.scope.names.lookup x = some .local := by rfl) (hy : X.env.scope.names.lookup y = some .local := by rfl)
    (hw : swappedStores [.Tuple [.Name x px, .Name y py] kt pt] (.Tuple [a, b] k2 pt2) X.env = pure (some [x, y]) := by rfl)
    (hs : swapsWithSole [.Tuple [.Name x px, .Name y py] kt pt] (.Tuple [a, b] k2 pt2) pos.line X.env = pure false := by rfl) (e1 : starEach [a, b] X.env = (false, eval a X.env) :: starEach [b] X.env := by rfl) (e2 : starEach [b] X.env = (false, eval b X.env) :: starEach [] X.env := by rfl) :
    SJ X fa W (.Assign [.Tuple [.Name x px, .Name y py] kt pt] (.Tuple [a, b] k2 pt2) pos) (gPar i j f g) := by
  obtain ⟨ta, pa, ka⟩ := ha
  obtain ⟨tb, pb, kb⟩ := hb
  refine ⟨_, ps_par hc hN hi hj hij hx hy (pa_cons pa (pa_cons pb pa_nil e2) e1) hw hs, fun B F0 H0 F H A σ ρ s Dn S hgood => ?_⟩
  by_cases hlt : i < ρ.length ∧ j < ρ.length
  · unfold gPar at hgood; rw [if_pos hlt] at hgood
    refine ka.then (vs := []) (evs := []) GoodS.tgt S.len (by rw [app0, app0]; exact S) hgood fun eu ρ1 s1 u F1 H1 A1 S1 hl1 h1 => ?_
    rw [app0, app0] at S1
    refine kb.then (vs := [some u]) (evs := [eu]) GoodS.tgt hl1 S1 h1 fun ev ρ2 s2 v F2 H2 A2 S2 hl2 h2 => ?_
    refine ⟨u, v, rfl, ?_⟩
    obtain ⟨A3, S3⟩ := two_pop S2 hl2 hij (by rw [← hl2, S.len]; exact hlt.1) (by rw [← hl2, S.len]; exact hlt.2)
    exact h2 _ F2 H2 A3 S3
  · unfold gPar at hgood; rw [if_neg hlt] at hgood
    exact hgood.elim
theorem sj_par3 {i j l : Nat} {x y z : Str} {kt : Nat} {k2 : Nat} {pt2 : Pos} (hc : X.calm = true) (hN : X.N.Nodup) (ha : VJ X fa W a f) (hb : VJ X fa W b g) (hd : VJ X fa W c h) (hi : X.N[i]? = some x := by rfl) (hj : X.N[j]? = some y := by rfl) (hk : X.N[l]? = some z := by rfl) (hij : i ≠ j := by decide) (hil : i ≠ l := by decide) (hjl : j ≠ l := by decide)
    (hx : X.env.scope.names.lookup x = some .local := by rfl) (hy : X.env.scope.names.lookup y = some .local := by rfl) (hz : X.env.scope.names.lookup z = some .local := by rfl)
    (hw : swappedStores [.Tuple [.Name x px, .Name y py, .Name z pz] kt pt] (.Tuple [a, b, c] k2 pt2) X.env = pure (some [x, y, z]) := by rfl)
    (hs : swapsWithSole [.Tuple [.Name x px, .Name y py, .Name z pz] kt pt] (.Tuple [a, b, c] k2 pt2) pos.line X.env = pure false := by rfl) (e1 : starEach [a, b, c] X.env = (false, eval a X.env) :: starEach [b, c] X.env := by rfl) (e2 : starEach [b, c] X.env = (false, eval b X.env) :: starEach [c] X.env := by rfl) (e3 : starEach [c] X.env = (false, eval c X.env) :: starEach [] X.env := by rfl) :
    SJ X fa W (.Assign [.Tuple [.Name x px, .Name y py, .Name z pz] kt pt] (.Tuple [a, b, c] k2 pt2) pos) (gPar3 i j l f g h) := by
  obtain ⟨ta, pa, ka⟩ := ha
  obtain ⟨tb, pb, kb⟩ := hb
  obtain ⟨td, pd, kd⟩ := hd
  refine ⟨_, ps_par3 hc hN hi hj hk hij hil hjl hx hy hz (pa_cons pa (pa_cons pb (pa_cons pd pa_nil e3) e2) e1) hw hs, fun B F0 H0 F H A σ ρ s Dn S hgood => ?_⟩
  by_cases hlt : i < ρ.length ∧ j < ρ.length ∧ l < ρ.length
  · unfold gPar3 at hgood; rw [if_pos hlt] at hgood
    refine ka.then (vs := []) (evs := []) GoodS.tgt S.len (by rw [app0, app0]; exact S) hgood fun eu ρ1 s1 u F1 H1 A1 S1 hl1 h1 => ?_
    rw [app0, app0] at S1
    refine kb.then (vs := [some u]) (evs := [eu]) GoodS.tgt hl1 S1 h1 fun ev ρ2 s2 v F2 H2 A2 S2 hl2 h2 => ?_
    rw [List.append_assoc, List.append_assoc] at S2
    refine kd.then (vs := [some u] ++ [some v]) (evs := [eu] ++ [ev]) GoodS.tgt hl2 S2 h2 fun ew ρ3 s3 w F3 H3 A3 S3 hl3 h3 => ?_
    refine ⟨u, v, w, rfl, ?_⟩
    have n3 : ρ3.length = ρ.length := by rw [← hl3, S.len]
    have S4 := S3.pop (by simp [hl3]) l
    rw [List.set_append_left _ _ (by rw [hl3]; omega), List.set_append_left _ _ (by omega)] at S4
    simp only [← List.append_assoc] at S4
    obtain ⟨A5, S5⟩ := two_pop S4 (by simp [hl3]) hij (by simp; omega) (by simp; omega)
    have c1 : ∀ {α : Type} (L : List α) (q1 q2 q3 : α), ((L.set l q3).set i q1).set j q2 = ((L.set i q1).set j q2).set l q3 := fun L q1 q2 q3 => by
      rw [List.set_comm _ _ (Ne.symm hil), List.set_comm _ _ (Ne.symm hjl)]
    rw [c1, c1] at S5
    exact h3 _ F3 H3 A5 S5
  · unfold gPar3 at hgood; rw [if_neg hlt] at hgood
    exact hgood.elim

/-! ### stores -/
theorem RepK.any {K : PySem.W.Frag} (k : Key) : ∀ {xs : List (Key × D)} {vs : List (Key × V)}, RepK K fa F xs vs → (xs.any fun kv => decide (kv.1 = k)) = vs.any fun kv => decide (kv.1 = k)
  | _, _, .nil => rfl
  | _, _, .cons r t => by rw [List.any_cons, List.any_cons, RepK.any k t]
theorem RepK.put {K : PySem.W.Frag} {y : D} {v : V} (k : Key) (r : Rep K fa F y v) : ∀ {xs : List (Key × D)} {vs : List (Key × V)}, RepK K fa F xs vs → RepK K fa F (xs.map fun kv => if kv.1 = k then (kv.1, y) else kv) (vs.map fun kv => if kv.1 = k then (kv.1, v) else kv)
  | _, _, .nil => .nil
  | (k', d) :: _, _ :: _, .cons rd t => by
    rw [List.map_cons, List.map_cons]
    by_cases e : k' = k
    · rw [if_pos e, if_pos e]
      exact .cons r (RepK.put k r t)
    · rw [if_neg e, if_neg e]
      exact .cons rd (RepK.put k r t)
theorem RepK.app1 {K : PySem.W.Frag} {y : D} {v : V} {k : Key} (r : Rep K fa F y v) : ∀ {xs : List (Key × D)} {vs : List (Key × V)}, RepK K fa F xs vs → RepK K fa F (xs ++ [(k, y)]) (vs ++ [(k, v)])
  | _, _, .nil => .cons r .nil
  | _, _, .cons rd t => .cons rd (RepK.app1 r t)
theorem putK_eq {K : PySem.W.Frag} {y : D} {v : V} (k : Key) (r : Rep K fa F y v) {xs : List (Key × D)} {vs : List (Key × V)} (h : RepK K fa F xs vs) : RepK K fa F (putD xs k y) (putK vs k v) := by
  unfold putD putK
  rw [h.any k]
  split
  · exact h.put k r
  · exact h.app1 r
theorem RepK.length {K : PySem.W.Frag} : ∀ {ds : List (Key × D)} {vs : List (Key × V)}, RepK K fa F ds vs → ds.length = vs.length
  | _, _, .nil => rfl
  | _, _, .cons _ t => congrArg (· + 1) (RepK.length t)
theorem RepL.setI {K : PySem.W.Frag} {y : D} {v : V} : ∀ (j : Nat) {ds : List D} {vs : List V}, Rep K fa F y v → RepL K fa F ds vs → RepL K fa F (ds.set j y) (vs.set j v)
  | _, _, _, _, .nil => .nil
  | 0, _, _, r, .cons _ t => .cons r t
  | j + 1, _, _, r, .cons q t => .cons q (RepL.setI j r t)
theorem key_rep {K : PySem.W.Frag} {d : D} {v : V} {k : Key} (h : keyD d = some k) (r : Rep K fa F d v) : v = kV k := by
  cases r <;> first | (cases h; rfl) | cases h
/-- the value is on the stack, the key behind it -/
theorem sj_stL {i : Nat} {x : Str} {pos' : Pos} (hv : VJ X fa W e fv) (hk : VJ X fa W c fk) (ho : PE X (.Name x p) (tVar i)) (hs : swapsWithSole [.Subscript (.Name x p) c pos'] e pos.line X.env = pure false := by rfl) (hw : swappedStores [.Subscript (.Name x p) c pos'] e X.env = pure none := by rfl)
    (h1 : (assignEach [.Subscript (.Name x p) c pos'] X.env).map (·.2) = [assign (.Subscript (.Name x p) c pos') X.env] := by rfl)
    (ha : ∀ v, assign (.Subscript (.Name x p) c pos') X.env v = (do
      let ov ← holding [v] (eval (.Name x p) X.env)
      let iv ← holding [v, ov] (eval c X.env)
      standAt pos'
      holding [v, ov, iv] (setItem ov iv v)
      release [v, ov, iv] []) := by intro _; rfl) :
    SJ X fa W (.Assign [.Subscript (.Name x p) c pos'] e pos) (gStL i fv fk) := by
  obtain ⟨tv, pv', kv⟩ := hv
  obtain ⟨tk, pk, kk⟩ := hk
  refine ⟨_, ps_asg pv' (pg_sub ho pk set_list ha) hs hw h1, fun B F0 H0 F H A σ ρ s Dn S hgood => ?_⟩
  refine kv.then (vs := []) (evs := []) GoodS.tgt S.len (by rw [app0, app0]; exact S) hgood fun ev ρ1 s1 w F1 H1 A1 S1 hl1 h1 => ?_
  rw [app0, app0] at S1
  dsimp only at h1
  cases e1 : ρ1[i]? with
  | none => rw [e1] at h1; exact h1.elim
  | some ev1 =>
    cases ev1 with
    | ol xs0 =>
      rw [e1] at h1
      obtain ⟨w0, f0, g0, n0, vs0, q0, r0⟩ := S1.slot i _ (app_get e1)
      have hi : i < σ.length := by rw [hl1]; exact (List.getElem?_eq_some_iff.mp e1).1
      rw [List.getElem?_append_left hi] at w0
      have w1 := join_some w0
      refine ⟨_, w1, ?_⟩
      refine kk.then (vs := [some w]) (evs := [ev]) GoodS.tgt hl1 S1 h1 fun ek ρ2 s2 u F2 H2 A2 S2 hl2 h2 => ?_
      cases ev with
      | d y =>
        cases ek with
        | d kd =>
          cases kd with
          | int k =>
            dsimp only at h2
            cases e2 : ρ2[i]? with
            | none => rw [e2] at h2; exact h2.elim
            | some ev2 =>
              cases ev2 with
              | ol xs =>
                rw [e2] at h2
                have S2' : SOk X.K fa B F0 H0 F2 H2 A2 (σ ++ [w, u].map some) (ρ2 ++ [y, .int k].map EV.d) s2 := by simpa using S2
                have rl := S2'.top hl2
                have S3 := S2'.pre hl2
                obtain ⟨w2, f2, g2, n2, vs2, q2, r2⟩ := S3.slot i _ e2
                have w3 := join_some w2
                rw [w1] at w3
                have ea : A1 i = A2 i := by
                  injection w3 with w3
                  injection w3 with w3
                  injection w3
                change GoodS X fa W B F0 H0 (((M.lift (ixN xs.length k)).bind _) s2) Dn at h2
                cases e3 : ixN xs.length k with
                | none => rw [e3] at h2; exact h2.elim
                | some j =>
                  rw [e3] at h2
                  cases rl with
                  | cons ry rl =>
                    cases rl with
                    | cons rk _ =>
                      cases rk
                      refine ⟨_, vs2, k, j, rfl, rfl, by rw [ea]; exact q2, by rw [← r2.length]; exact e3, ?_⟩
                      rw [ea]
                      exact h2 σ F2 _ A2 (S3.write (ev' := .ol (xs.set j y)) e2 rfl rfl ⟨rfl, f2, g2, n2, _, upd_same, RepL.setI j ry r2⟩)
              | _ => rw [e2] at h2; exact h2.elim
          | _ => exact h2.elim
        | _ => exact h2.elim
      | _ => exact h2.elim
    | _ => rw [e1] at h1; exact h1.elim
theorem sj_stD {i : Nat} {x : Str} {pos' : Pos} (hu : X.A.units + 1 < cLine) (hv : VJ X fa W e fv) (hk : VJ X fa W c fk) (ho : PE X (.Name x p) (tVar i)) (hs : swapsWith e (some (.Subscript (.Name x p) c pos')) pos.line X.env = pure false := by rfl) :
    SJ X fa W (.Assign [.Subscript (.Name x p) c pos'] e pos) (gStD i fv fk) := by
  obtain ⟨tv, pv', kv⟩ := hv
  obtain ⟨tk, pk, kk⟩ := hk
  refine ⟨_, ps_dput hu ho pk pv' hs, fun B F0 H0 F H A σ ρ s Dn S hgood => ?_⟩
  refine kv.then (vs := []) (evs := []) GoodS.tgt S.len (by rw [app0, app0]; exact S) hgood fun ev ρ1 s1 w F1 H1 A1 S1 hl1 h1 => ?_
  rw [app0, app0] at S1
  dsimp only at h1
  cases e1 : ρ1[i]? with
  | none => rw [e1] at h1; exact h1.elim
  | some ev1 =>
    cases ev1 with
    | od xs0 =>
      rw [e1] at h1
      obtain ⟨w0, f0, g0, n0, vs0, q0, r0⟩ := S1.slot i _ (app_get e1)
      have hi : i < σ.length := by rw [hl1]; exact (List.getElem?_eq_some_iff.mp e1).1
      rw [List.getElem?_append_left hi] at w0
      have w1 := join_some w0
      refine ⟨_, w1, ?_⟩
      refine kk.then (vs := [some w]) (evs := [ev]) GoodS.tgt hl1 S1 h1 fun ek ρ2 s2 u F2 H2 A2 S2 hl2 h2 => ?_
      cases ev with
      | d y =>
        cases ek with
        | d kd =>
          dsimp only at h2
          cases e2 : ρ2[i]? with
          | none => rw [e2] at h2; exact h2.elim
          | some ev2 =>
            cases ev2 with
            | od xs =>
              rw [e2] at h2
              have S2' : SOk X.K fa B F0 H0 F2 H2 A2 (σ ++ [w, u].map some) (ρ2 ++ [y, kd].map EV.d) s2 := by simpa using S2
              have rl := S2'.top hl2
              have S3 := S2'.pre hl2
              obtain ⟨w2, f2, g2, n2, vs2, q2, r2⟩ := S3.slot i _ e2
              have w3 := join_some w2
              rw [w1] at w3
              have ea : A1 i = A2 i := by
                injection w3 with w3
                injection w3 with w3
                injection w3
              change GoodS X fa W B F0 H0 (((M.lift (keyD kd)).bind _) s2) Dn at h2
              cases e3 : keyD kd with
              | none => rw [e3] at h2; exact h2.elim
              | some k =>
                rw [e3] at h2
                change GoodS X fa W B F0 H0 ((if xs.length < sizeLine then M.pure (.nx, ρ2.set i (.od (putD xs k y))) else M.bad) s2) Dn at h2
                by_cases hz : xs.length < sizeLine
                · rw [if_pos hz] at h2
                  cases rl with
                  | cons ry rl =>
                    cases rl with
                    | cons rk _ =>
                      rw [key_rep e3 rk]
                      rw [ea]
                      refine ⟨_, _, rfl, DPut.k (k := k) q2 (by rw [← r2.length]; exact hz), ?_⟩
                      exact h2 σ F2 _ A2 (S3.write (ev' := .od (putD xs k y)) e2 rfl rfl ⟨rfl, f2, g2, n2, _, upd_same, putK_eq k ry r2⟩)
                · rw [if_neg hz] at h2
                  exact h2.elim
            | _ => rw [e2] at h2; exact h2.elim
        | _ => exact h2.elim
      | _ => exact h2.elim
    | _ => rw [e1] at h1; exact h1.elim
end
end DL

set_option Elab.async false
set_option linter.all false
set_option maxRecDepth 100000
set_option maxHeartbeats 2000000
/-! The data layer: operators, built-ins. -/
namespace DL
open PySem PySem.Spec PyProof.Rows L2

theorem OpR.or {X : Cx} {f : Value → Value → Sem Value} {r r' : R2} (h : OpR X f r) (h' : OpR X f r') : OpR X f (fun x y H Q => r x y H Q ∨ r' x y H Q) :=
  fun pins s σ H x y v u Q I rx ry q => q.elim (h pins s σ H x y v u Q I rx ry) (h' pins s σ H x y v u Q I rx ry)

/-! ### arithmetic -/
def addD : D → D → Option D
  | .int a, .int b => some (.int (a + b))
  | .str a, .str b => if a.length + b.length ≤ sizeLine then some (.str (a ++ b)) else none
  | .lst a, .lst b => if a.length + b.length ≤ sizeLine then some (.lst (a ++ b)) else none
  | .tup a, .tup b => if a.length + b.length ≤ sizeLine then some (.tup (a ++ b)) else none
  | _, _ => none
def subD : D → D → Option D
  | .int a, .int b => some (.int (a - b))
  | _, _ => none
def mulD : D → D → Option D
  | .int a, .int b => if (-(2 ^ 64) < a ∧ a < 2 ^ 64) ∨ (-(2 ^ 64) < b ∧ b < 2 ^ 64) then some (.int (a * b)) else none
  | .lst xs, .int k => if -(2 ^ 63) ≤ k ∧ k < 2 ^ 63 ∧ xs.length * k.toNat ≤ sizeLine then some (.lst (List.replicate k.toNat xs).flatten) else none
  | _, _ => none
def modD : D → D → Option D
  | .int a, .int b => if 0 < b then some (.int (a % b)) else none
  | _, _ => none
def fdivD : D → D → Option D
  | .int a, .int b => if 0 < b ∧ b < 1073741824 then some (.int (a / b)) else none
  | _, _ => none
def powD : D → D → Option D
  | .int a, .int b => if 0 ≤ b ∧ b ≤ 1000000 ∧ a.natAbs < 2 ^ 64 then some (.int (a ^ b.toNat)) else none
  | _, _ => none
def negD : D → Option D
  | .int a => some (.int (-a))
  | _ => none
section
variable {X : Cx} {fa : Option FA}
theorem opr_add : OpR X (binaryOp .Add) (fun x y H Q => rI0 (fun i j => .int (i + j)) x y H Q ∨ ((∃ i j, x = .str i ∧ y = .str j ∧ i.length + j.length ≤ sizeLine ∧ Q (.str (i ++ j)) H) ∨ (rCat x y H Q ∨ rCatA X.K x y H Q))) :=
  OpR.or op_add (OpR.or op_add_str (OpR.or op_cat op_catA))
theorem ok_add : OpOk X fa (fun x y H Q => rI0 (fun i j => .int (i + j)) x y H Q ∨ ((∃ i j, x = .str i ∧ y = .str j ∧ i.length + j.length ≤ sizeLine ∧ Q (.str (i ++ j)) H) ∨ (rCat x y H Q ∨ rCatA X.K x y H Q))) addD := by
  intro F H s x y a b Q h1 h2 ra rb h
  cases ra with
  | int i =>
    cases rb with
    | int j => exact .inl ⟨i, j, rfl, rfl, GoodO.here h1 h2 (.int _) h⟩
    | _ => exact h.elim
  | str i =>
    cases rb with
    | str j =>
      by_cases hl : i.length + j.length ≤ sizeLine
      · rw [show addD (.str i) (.str j) = some (.str (i ++ j)) from if_pos hl] at h
        exact .inr (.inl ⟨i, j, rfl, rfl, hl, GoodO.here h1 h2 (.str _) h⟩)
      · rw [show addD (.str i) (.str j) = none from if_neg hl] at h
        exact h.elim
    | _ => exact h.elim
  | @lst p xs vs hq r =>
    cases rb with
    | @lst p' ys ws hq' r' =>
      by_cases hl : xs.length + ys.length ≤ sizeLine
      · rw [show addD (.lst xs) (.lst ys) = some (.lst (xs ++ ys)) from if_pos hl] at h
        refine .inr (.inr (.inl ⟨p, p', vs, ws, rfl, rfl, h1 _ _ hq, h1 _ _ hq', by rw [← r.length, ← r'.length]; exact hl, fun q hn => ?_⟩))
        exact GoodO.new h1 h2 hn (.lst upd_same ((r.append r').mono (Ext.new (fa := fa) h1 hn).ff)) h
      · rw [show addD (.lst xs) (.lst ys) = none from if_neg hl] at h
        exact h.elim
    | _ => exact h.elim
  | @tup p xs vs hq r =>
    cases rb with
    | @tup p' ys ws hq' r' =>
      by_cases hl : xs.length + ys.length ≤ sizeLine
      · rw [show addD (.tup xs) (.tup ys) = some (.tup (xs ++ ys)) from if_pos hl] at h
        refine .inr (.inr (.inr ⟨p, p', vs, ws, rfl, rfl, same_seqT h1 hq, same_seqT h1 hq', by rw [← r.length, ← r'.length]; exact hl, fun e => ?_, fun _ e => ?_, fun _ _ q hn => ?_⟩))
        · subst e
          cases r
          exact GoodO.here h1 h2 (.tup hq' r') h
        · subst e
          cases r'
          rw [List.append_nil] at h
          exact GoodO.here h1 h2 (.tup hq r) h
        · exact GoodO.new h1 h2 hn (.tup (SqT.of upd_same) ((r.append r').mono (Ext.new (fa := fa) h1 hn).ff)) h
      · rw [show addD (.tup xs) (.tup ys) = none from if_neg hl] at h
        exact h.elim
    | _ => exact h.elim
  | _ => exact h.elim
theorem ok_sub : OpOk X fa (rI0 fun i j => .int (i - j)) subD := by
  intro F H s x y a b Q h1 h2 ra rb h
  cases ra with
  | int i =>
    cases rb with
    | int j => exact ⟨i, j, rfl, rfl, GoodO.here h1 h2 (.int _) h⟩
    | _ => exact h.elim
  | _ => exact h.elim
theorem opr_mul : OpR X (binaryOp .Mult) (fun x y H Q => rI CMul (fun i j => .int (i * j)) x y H Q ∨ rRep x y H Q) := OpR.or op_mul op_rep
theorem RepL.rep {K : PySem.W.Frag} {F : Hp} {ds : List D} {vs : List V} (h : RepL K fa F ds vs) : ∀ k : Nat, RepL K fa F (List.replicate k ds).flatten (List.replicate k vs).flatten
  | 0 => .nil
  | k + 1 => by
    rw [List.replicate_succ, List.replicate_succ, List.flatten_cons, List.flatten_cons]
    exact h.append (RepL.rep h k)
theorem ok_mul : OpOk X fa (fun x y H Q => rI CMul (fun i j => .int (i * j)) x y H Q ∨ rRep x y H Q) mulD := by
  intro F H s x y a b Q h1 h2 ra rb h
  cases ra with
  | int i =>
    cases rb with
    | int j =>
      by_cases hl : (-(2 ^ 64) < i ∧ i < 2 ^ 64) ∨ (-(2 ^ 64) < j ∧ j < 2 ^ 64)
      · rw [show mulD (.int i) (.int j) = some (.int (i * j)) from if_pos hl] at h
        exact .inl ⟨i, j, rfl, rfl, hl, GoodO.here h1 h2 (.int _) h⟩
      · rw [show mulD (.int i) (.int j) = none from if_neg hl] at h
        exact h.elim
    | _ => exact h.elim
  | @lst p xs vs hq r =>
    cases rb with
    | int k =>
      by_cases hl : -(2 ^ 63) ≤ k ∧ k < 2 ^ 63 ∧ xs.length * k.toNat ≤ sizeLine
      · rw [show mulD (.lst xs) (.int k) = some (.lst (List.replicate k.toNat xs).flatten) from if_pos hl] at h
        refine .inr ⟨p, k, vs, rfl, rfl, h1 _ _ hq, hl.1, hl.2.1, by rw [← r.length]; exact hl.2.2, fun q hn => ?_⟩
        exact GoodO.new h1 h2 hn (.lst upd_same ((r.rep k.toNat).mono (Ext.new (fa := fa) h1 hn).ff)) h
      · rw [show mulD (.lst xs) (.int k) = none from if_neg hl] at h
        exact h.elim
    | _ => exact h.elim
  | _ => exact h.elim
theorem ok_mod : OpOk X fa (rI (fun _ j => 0 < j) fun i j => .int (i % j)) modD := by
  intro F H s x y a b Q h1 h2 ra rb h
  cases ra with
  | int i =>
    cases rb with
    | int j =>
      by_cases hl : 0 < j
      · rw [show modD (.int i) (.int j) = some (.int (i % j)) from if_pos hl] at h
        exact ⟨i, j, rfl, rfl, hl, GoodO.here h1 h2 (.int _) h⟩
      · rw [show modD (.int i) (.int j) = none from if_neg hl] at h
        exact h.elim
    | _ => exact h.elim
  | _ => exact h.elim
theorem ok_fdiv : OpOk X fa (rI CDiv fun i j => .int (i / j)) fdivD := by
  intro F H s x y a b Q h1 h2 ra rb h
  cases ra with
  | int i =>
    cases rb with
    | int j =>
      by_cases hl : 0 < j ∧ j < 1073741824
      · rw [show fdivD (.int i) (.int j) = some (.int (i / j)) from if_pos hl] at h
        exact ⟨i, j, rfl, rfl, hl, GoodO.here h1 h2 (.int _) h⟩
      · rw [show fdivD (.int i) (.int j) = none from if_neg hl] at h
        exact h.elim
    | _ => exact h.elim
  | _ => exact h.elim
theorem ok_pow : OpOk X fa (rI CPow fun i j => .int (i ^ j.toNat)) powD := by
  intro F H s x y a b Q h1 h2 ra rb h
  cases ra with
  | int i =>
    cases rb with
    | int j =>
      by_cases hl : 0 ≤ j ∧ j ≤ 1000000 ∧ i.natAbs < 2 ^ 64
      · rw [show powD (.int i) (.int j) = some (.int (i ^ j.toNat)) from if_pos hl] at h
        exact ⟨i, j, rfl, rfl, hl, GoodO.here h1 h2 (.int _) h⟩
      · rw [show powD (.int i) (.int j) = none from if_neg hl] at h
        exact h.elim
    | _ => exact h.elim
  | _ => exact h.elim
theorem ok_neg : UnOk X fa (rU fun i => .int (-i)) negD := by
  intro F H s x a Q h1 h2 ra h
  cases ra with
  | int i => exact ⟨i, rfl, GoodO.here h1 h2 (.int _) h⟩
  | _ => exact h.elim

/-! ### comparisons -/
def ltD : D → D → Option D
  | .int a, .int b => some (.bl (decide (a < b)))
  | _, _ => none
def leD : D → D → Option D
  | .int a, .int b => some (.bl (decide (a ≤ b)))
  | _, _ => none
def gtD : D → D → Option D
  | .int a, .int b => some (.bl (decide (b < a)))
  | _, _ => none
def geD : D → D → Option D
  | .int a, .int b => some (.bl (decide (b ≤ a)))
  | _, _ => none
theorem ok_intb {g : Int → Int → Bool} {gD : D → D → Option D} (h0 : ∀ i j, gD (.int i) (.int j) = some (.bl (g i j))) (h1 : ∀ a b, gD a b ≠ none → ∃ i j, a = .int i ∧ b = .int j) : OpOk X fa (rI0 fun i j => .bl (g i j)) gD := by
  intro F H s x y a b Q e1 e2 ra rb h
  have hn : gD a b ≠ none := fun e => by rw [e] at h; exact h
  obtain ⟨i, j, rfl, rfl⟩ := h1 a b hn
  cases ra
  cases rb
  rw [h0] at h
  exact ⟨i, j, rfl, rfl, GoodO.here e1 e2 (.bl _) h⟩
theorem ok_lt : OpOk X fa (rI0 fun i j => .bl (decide (i < j))) ltD := ok_intb (fun _ _ => rfl) fun a b h => by
  cases a <;> cases b <;> first | exact ⟨_, _, rfl, rfl⟩ | exact absurd rfl h
theorem ok_le : OpOk X fa (rI0 fun i j => .bl (decide (i ≤ j))) leD := ok_intb (fun _ _ => rfl) fun a b h => by
  cases a <;> cases b <;> first | exact ⟨_, _, rfl, rfl⟩ | exact absurd rfl h
theorem ok_gt : OpOk X fa (rI0 fun i j => .bl (decide (j < i))) gtD := ok_intb (fun _ _ => rfl) fun a b h => by
  cases a <;> cases b <;> first | exact ⟨_, _, rfl, rfl⟩ | exact absurd rfl h
theorem ok_ge : OpOk X fa (rI0 fun i j => .bl (decide (j ≤ i))) geD := ok_intb (fun _ _ => rfl) fun a b h => by
  cases a <;> cases b <;> first | exact ⟨_, _, rfl, rfl⟩ | exact absurd rfl h

/-- a flat value -/
def scalV : D → Option V
  | .non => some .non
  | .bl b => some (.bl b)
  | .int i => some (.int i)
  | .str x => some (.str x)
  | _ => none
theorem scalV_rep {K : PySem.W.Frag} {F : Hp} {d : D} {v w : V} (h : scalV d = some w) (r : Rep K fa F d v) : v = w := by
  cases r <;> first | (cases h; rfl) | cases h
mutual
/-- data for the library's == -/
def pyD : D → Option PyData
  | .non => some .none
  | .bl b => some (.bool b)
  | .int i => some (.int i)
  | .str x => some (.str x)
  | .tup xs => (pyL xs).map .tuple
  | .lst xs => (pyL xs).map .list
  | .dic _ => none
  | .feed => none
  | .opq _ => none
  | .scr _ => none
  | .ins _ _ => none
  | .ptup _ => none
def pyL : List D → Option (List PyData)
  | [] => some []
  | x :: xs => (pyD x).bind fun y => (pyL xs).map fun ys => y :: ys
end
mutual
theorem dp_of' {K : PySem.W.Frag} {fa : Option FA} {F H : Hp} (h1 : Same F H) : ∀ {d : D} {v : V}, Rep K fa F d v → ∀ p : PyData, pyD d = some p → Dp K H v p
  | _, _, .non, _, e => by cases e; exact .non
  | _, _, .bl b, _, e => by cases e; exact .bl b
  | _, _, .int i, _, e => by cases e; exact .int i
  | _, _, .str x, _, e => by cases e; exact .str x
  | _, _, .feed φ _, _, e => by cases e
  | _, _, .opq v, _, e => by cases e
  | _, _, .scr _, _, e => by cases e
  | _, _, .dic _ _, _, e => by cases e
  | _, _, .ins _ _ _, _, e => by cases e
  | _, _, .ptup _ _ _, _, e => by cases e
  | _, _, .tup (xs := xs) h r, p, e => by
    rw [pyD] at e
    cases q : pyL xs with
    | none => rw [q] at e; cases e
    | some ps => rw [q] at e; cases e; exact .tup (same_seqT h1 h) (dps_of' h1 r ps q)
  | _, _, .lst (xs := xs) h r, p, e => by
    rw [pyD] at e
    cases q : pyL xs with
    | none => rw [q] at e; cases e
    | some ps => rw [q] at e; cases e; exact .lst (SqL.of (h1 _ _ h)) (dps_of' h1 r ps q)
theorem dps_of' {K : PySem.W.Frag} {fa : Option FA} {F H : Hp} (h1 : Same F H) : ∀ {ds : List D} {vs : List V}, RepL K fa F ds vs → ∀ ps : List PyData, pyL ds = some ps → DpAll K H vs ps
  | _, _, .nil, _, e => by rw [pyL] at e; cases e; exact .nil
  | _, _, .cons (d := d) (ds := ds) r t, ps, e => by
    rw [pyL] at e
    cases q : pyD d with
    | none => rw [q] at e; cases e
    | some y =>
      rw [q] at e
      cases q2 : pyL ds with
      | none => rw [q2] at e; cases e
      | some ys => rw [q2] at e; cases e; exact .cons (dp_of' h1 r y q) (dps_of' h1 t ys q2)
end
theorem dp_of {K : PySem.W.Frag} {F H : Hp} (h1 : Same F H) {d : D} {v : V} {p : PyData} (e : pyD d = some p) (r : Rep K fa F d v) : Dp K H v p := dp_of' h1 r p e
/-- a == b -/
def eqB (a b : D) : Option Bool :=
  match scalV a, scalV b with
  | some x, some y => if scal x y = true then some (decide (x = y)) else eqP a b
  | _, _ => eqP a b
where eqP (a b : D) : Option Bool := match pyD a, pyD b with
  | some p, some q => if SeqAt.shaped p = true ∧ SeqAt.shaped q = true then some (PyData.eqv p q) else none
  | _, _ => none
def eqD (a b : D) : Option D := (eqB a b).map .bl
def neD (a b : D) : Option D := (eqB a b).map fun k => .bl (!k)
theorem opr_eq (hu : X.A.units + 64 < cLine) : OpR X (compareOp .Eq) (fun x y H Q => rEq x y H Q ∨ rEqD X.K x y H Q) := OpR.or op_eq (op_eqD hu)
theorem opr_ne (hu : X.A.units + 64 < cLine) : OpR X (compareOp .NotEq) (fun x y H Q => rNe x y H Q ∨ rNeD X.K x y H Q) := OpR.or op_ne (op_neD hu)
theorem eqB_cases {F H : Hp} {x y : V} {a b : D} {k : Bool} (h1 : Same F H) (ra : Rep X.K fa F a x) (rb : Rep X.K fa F b y) (h : eqB a b = some k) :
    (scal x y = true ∧ k = decide (x = y)) ∨ ∃ d e, Dp X.K H x d ∧ Dp X.K H y e ∧ SeqAt.shaped d = true ∧ SeqAt.shaped e = true ∧ k = PyData.eqv d e := by
  have part : eqB.eqP a b = some k → ∃ d e, Dp X.K H x d ∧ Dp X.K H y e ∧ SeqAt.shaped d = true ∧ SeqAt.shaped e = true ∧ k = PyData.eqv d e := fun h => by
    unfold eqB.eqP at h
    cases q : pyD a with
    | none => rw [q] at h; cases h
    | some p =>
      cases q2 : pyD b with
      | none => rw [q, q2] at h; cases h
      | some p2 =>
        rw [q, q2] at h
        dsimp only at h
        by_cases hs : SeqAt.shaped p = true ∧ SeqAt.shaped p2 = true
        · rw [if_pos hs] at h
          cases h
          exact ⟨p, p2, dp_of h1 q ra, dp_of h1 q2 rb, hs.1, hs.2, rfl⟩
        · rw [if_neg hs] at h
          cases h
  unfold eqB at h
  cases q : scalV a with
  | none => rw [q] at h; exact .inr (part h)
  | some u =>
    cases q2 : scalV b with
    | none => rw [q, q2] at h; exact .inr (part h)
    | some w =>
      rw [q, q2] at h
      dsimp only at h
      obtain rfl := scalV_rep q ra
      obtain rfl := scalV_rep q2 rb
      by_cases hs : scal x y = true
      · rw [if_pos hs] at h
        cases h
        exact .inl ⟨hs, rfl⟩
      · rw [if_neg hs] at h
        exact .inr (part h)
theorem ok_eq : OpOk X fa (fun x y H Q => rEq x y H Q ∨ rEqD X.K x y H Q) eqD := by
  intro F H s x y a b Q h1 h2 ra rb h
  unfold eqD at h
  cases q : eqB a b with
  | none => rw [q] at h; exact h.elim
  | some k =>
    rw [q] at h
    have z : Q (.bl k) H := GoodO.here h1 h2 (.bl k) h
    rcases eqB_cases h1 ra rb q with ⟨e1, e2⟩ | ⟨d, e, e1, e2, e3, e4, e5⟩
    · exact .inl ⟨e1, by rw [← e2]; exact z⟩
    · exact .inr ⟨d, e, e1, e2, e3, e4, by rw [← e5]; exact z⟩
theorem ok_ne : OpOk X fa (fun x y H Q => rNe x y H Q ∨ rNeD X.K x y H Q) neD := by
  intro F H s x y a b Q h1 h2 ra rb h
  unfold neD at h
  cases q : eqB a b with
  | none => rw [q] at h; exact h.elim
  | some k =>
    rw [q] at h
    have z : Q (.bl (!k)) H := GoodO.here h1 h2 (.bl _) h
    rcases eqB_cases h1 ra rb q with ⟨e1, e2⟩ | ⟨d, e, e1, e2, e3, e4, e5⟩
    · exact .inl ⟨e1, by rw [← e2]; exact z⟩
    · exact .inr ⟨d, e, e1, e2, e3, e4, by rw [← e5]; exact z⟩
def isNon : D → Bool
  | .non => true
  | _ => false
/-- is None, is not None (of data: nothing opaque) -/
def isD : D → D → Option D
  | .opq _, _ => none
  | a, .non => some (.bl (isNon a))
  | _, _ => none
def isnD : D → D → Option D
  | .opq _, _ => none
  | a, .non => some (.bl (!isNon a))
  | _, _ => none
theorem isNon_rep {K : PySem.W.Frag} {F : Hp} {d : D} {v : V} (ho : ∀ w, d ≠ .opq w) (r : Rep K fa F d v) : decide (v = .non) = isNon d := by
  cases r <;> first | rfl | exact absurd rfl (ho _)
theorem ok_is : OpOk X fa (fun x y H Q => y = .non ∧ Q (.bl (decide (x = .non))) H) isD := by
  intro F H s x y a b Q h1 h2 ra rb h
  have ho : ∀ w, a ≠ .opq w := fun w e => by subst e; exact h
  cases rb with
  | non =>
    have e : isD a .non = some (.bl (isNon a)) := by cases a <;> first | rfl | exact absurd rfl (ho _)
    rw [e, ← isNon_rep ho ra] at h
    exact ⟨rfl, GoodO.here h1 h2 (.bl _) h⟩
  | _ => cases a <;> exact h.elim
theorem ok_isn : OpOk X fa (fun x y H Q => y = .non ∧ Q (.bl (!decide (x = .non))) H) isnD := by
  intro F H s x y a b Q h1 h2 ra rb h
  have ho : ∀ w, a ≠ .opq w := fun w e => by subst e; exact h
  cases rb with
  | non =>
    have e : isnD a .non = some (.bl (!isNon a)) := by cases a <;> first | rfl | exact absurd rfl (ho _)
    rw [e, ← isNon_rep ho ra] at h
    exact ⟨rfl, GoodO.here h1 h2 (.bl _) h⟩
  | _ => cases a <;> exact h.elim
end
end DL

set_option Elab.async false
set_option linter.all false
set_option maxRecDepth 100000
set_option maxHeartbeats 2000000
/-! The data layer: membership, items, slices, built-in functions. -/
namespace DL
open PySem PySem.Spec PyProof.Rows L2

theorem dget_rd {H : Hp} {a : Addr} {kvs : List (Key × V)} {k : Key} (e : Rd H a (.dK kvs)) : DGet H a (kV k) (valV kvs k) := .inl ⟨kvs, k, e, rfl, rfl⟩
theorem call_lenR {X : Cx} : CallR X (.builtin "len") (fun xs H Q => ∃ a kvs, xs = [V.ref a] ∧ Rd H a (.dK kvs) ∧ Q (.int kvs.length) H) := by
  intro pins s σ H xs us Q I r h
  obtain ⟨a, kvs, rfl, ha, q⟩ := h
  obtain ⟨u, rfl, ru⟩ := vals1 r
  cases ru
  exact d_len I ha fun t s' I' => ⟨.int kvs.length, H, I', ⟨t, rfl⟩, q⟩
def lookD (kvs : List (Key × D)) (k : Key) : Option D := (kvs.find? fun kv => decide (kv.1 = k)).map (·.2)
def flatL : List D → Option (List V)
  | [] => some []
  | x :: xs => (scalV x).bind fun v => (flatL xs).map fun vs => v :: vs
section
variable {K : PySem.W.Frag} {fa : Option FA} {F H : Hp}
theorem lookD_rep {k : Key} : ∀ {xs : List (Key × D)} {vs : List (Key × V)}, RepK K fa F xs vs → (∀ d, lookD xs k = some d → ∃ v, valV vs k = some v ∧ Rep K fa F d v) ∧ (lookD xs k = none → valV vs k = none)
  | _, _, .nil => ⟨fun d h => by simp [lookD] at h, fun _ => rfl⟩
  | (k', d') :: xs, (_, v') :: vs, .cons r t => by
    obtain ⟨i1, i2⟩ := lookD_rep (k := k) t
    by_cases e : k' = k
    · refine ⟨fun d h => ?_, fun h => ?_⟩
      · have z : lookD ((k', d') :: xs) k = some d' := by simp [lookD, e]
        rw [z] at h
        cases h
        exact ⟨v', by rw [valV_pos e], r⟩
      · have z : lookD ((k', d') :: xs) k = some d' := by simp [lookD, e]
        rw [z] at h
        cases h
    · have z : lookD ((k', d') :: xs) k = lookD xs k := by simp [lookD, e]
      rw [z]
      rw [valV_neg (p := (k', v')) e]
      exact ⟨i1, i2⟩
theorem flatL_rep : ∀ {xs : List D} {vs ws : List V}, flatL xs = some ws → RepL K fa F xs vs → vs = ws
  | _, _, _, h, .nil => by cases h; rfl
  | x :: xs, v :: vs, ws, h, .cons r t => by
    rw [flatL] at h
    cases q : scalV x with
    | none => rw [q] at h; cases h
    | some u =>
      rw [q] at h
      cases q2 : flatL xs with
      | none => rw [q2] at h; cases h
      | some us =>
        rw [q2] at h
        cases h
        rw [scalV_rep q r, flatL_rep q2 t]
theorem scalV_flat {d : D} {v : V} (h : scalV d = some v) : flatV v = true := by
  cases d <;> first | (cases h; rfl) | cases h
theorem flatL_flat : ∀ {xs : List D} {vs : List V}, flatL xs = some vs → vs.all flatV = true
  | [], _, h => by cases h; rfl
  | x :: xs, vs, h => by
    rw [flatL] at h
    cases q : scalV x with
    | none => rw [q] at h; cases h
    | some u =>
      rw [q] at h
      cases q2 : flatL xs with
      | none => rw [q2] at h; cases h
      | some us =>
        rw [q2] at h
        cases h
        rw [List.all_cons, scalV_flat q, flatL_flat q2]
        rfl
end
/-- x in y -/
def inB (x y : D) : Option Bool :=
  match x, y with
  | .str a, .str b => some (!(Builtin.Str.occurrences b a 0 b.length 1).isEmpty)
  | a, .dic kvs => (keyD a).map fun k => (lookD kvs k).isSome
  | a, .tup xs => (scalV a).bind fun v => (flatL xs).map fun vs => inV v vs
  | a, .lst xs => match scalV a, flatL xs with
    | some v, some vs => some (inV v vs)
    | _, _ => (pyD a).bind fun p => (pyL xs).bind fun ps => if SeqAt.shaped p = true ∧ SeqAt.shaped (.list ps) = true then some (ps.any fun z => PyData.eqv z p) else none
  | _, _ => none
def inD (x y : D) : Option D := (inB x y).map .bl
def ninD (x y : D) : Option D := (inB x y).map fun k => .bl (!k)
section
variable {X : Cx} {fa : Option FA} {W : L2.St → XK} {a b c e o : Expr} {es rest : List Expr} {pos p apos cpos : Pos} {f1 f2 f3 : Env' → M D} {fl : Env' → M (List D)}
def rInDk : R2 := fun x y H Q => ∃ a ov, y = .ref a ∧ DGet H a x ov ∧ Q (.bl ov.isSome) H
def rNInDk : R2 := fun x y H Q => ∃ a ov, y = .ref a ∧ DGet H a x ov ∧ Q (.bl (!ov.isSome)) H
theorem op_in_dk (hu : X.A.units + 1 < cLine) : OpR X (compareOp .In) rInDk := by
  intro pins s σ H x y v u Q I rx ry h
  obtain ⟨a, ov, rfl, g, q⟩ := h
  obtain rfl : u = Value.ref a := ry
  exact d_in hu I g rx fun s3 I3 => ⟨.bl ov.isSome, H, I3, rfl, q⟩
theorem op_nin_dk (hu : X.A.units + 1 < cLine) : OpR X (compareOp .NotIn) rNInDk := by
  intro pins s σ H x y v u Q I rx ry h
  obtain ⟨a, ov, rfl, g, q⟩ := h
  obtain rfl : u = Value.ref a := ry
  exact d_notIn hu I g rx fun s3 I3 => ⟨.bl (!ov.isSome), H, I3, rfl, q⟩
def rInAll (K : PySem.W.Frag) : R2 := fun x y H Q => (∃ i j, x = .str i ∧ y = .str j ∧ Q (.bl (!(Builtin.Str.occurrences j i 0 j.length 1).isEmpty)) H) ∨ (rInDk x y H Q ∨ (rIn K false x y H Q ∨ rInD K x y H Q))
def rNInAll (K : PySem.W.Frag) : R2 := fun x y H Q => (∃ i j, x = .str i ∧ y = .str j ∧ Q (.bl (!(!(Builtin.Str.occurrences j i 0 j.length 1).isEmpty))) H) ∨ (rNInDk x y H Q ∨ (rIn K true x y H Q ∨ rNotInD K x y H Q))
theorem opr_in (hu : X.A.units + 65 < cLine) : OpR X (compareOp .In) (rInAll X.K) := OpR.or op_in_str (OpR.or (op_in_dk (by omega)) (OpR.or op_in_seq (op_inD hu)))
theorem opr_nin (hu : X.A.units + 65 < cLine) : OpR X (compareOp .NotIn) (rNInAll X.K) := OpR.or op_notin_str (OpR.or (op_nin_dk (by omega)) (OpR.or op_notIn_seq (op_notInD hu)))
theorem inB_cases {F H : Hp} {x y : V} {a b : D} {k : Bool} (h1 : Same F H) (ra : Rep X.K fa F a x) (rb : Rep X.K fa F b y) (h : inB a b = some k) :
    (∃ i j, x = .str i ∧ y = .str j ∧ k = !(Builtin.Str.occurrences j i 0 j.length 1).isEmpty) ∨ (∃ p ov, y = .ref p ∧ DGet H p x ov ∧ k = ov.isSome) ∨ (∃ p xs, y = .ref p ∧ (SqL X.K H p xs ∨ SqT X.K H p xs) ∧ flatV x = true ∧ xs.all flatV = true ∧ k = inV x xs) ∨
      ∃ d ds, Dp X.K H x d ∧ Dp X.K H y (.list ds) ∧ SeqAt.shaped d = true ∧ SeqAt.shaped (.list ds) = true ∧ k = ds.any fun z => PyData.eqv z d := by
  cases rb with
  | str j =>
    cases ra with
    | str i => cases h; exact .inl ⟨i, j, rfl, rfl, rfl⟩
    | _ => cases h
  | @dic p kvs vs hq r =>
    have h' : (keyD a).map (fun k => (lookD kvs k).isSome) = some k := by cases a <;> exact h
    cases q : keyD a with
    | none => rw [q] at h'; cases h'
    | some kk =>
      rw [q] at h'
      have hk := Option.some.inj h'
      obtain rfl := key_rep q ra
      refine .inr (.inl ⟨p, _, rfl, dget_rd (k := kk) (same_rd h1 hq), ?_⟩)
      obtain ⟨i1, i2⟩ := lookD_rep (k := kk) r
      rw [← hk]
      show (lookD kvs kk).isSome = (valV vs kk).isSome
      cases q2 : lookD kvs kk with
      | none => rw [i2 q2]; rfl
      | some d =>
        obtain ⟨v, hv, _⟩ := i1 d q2
        rw [hv]
        rfl
  | @tup p xs vs hq r =>
    have h' : ((scalV a).bind fun v => (flatL xs).map fun vs => inV v vs) = some k := by cases a <;> exact h
    cases q : scalV a with
    | none => rw [q] at h'; cases h'
    | some w =>
      rw [q] at h'
      change ((flatL xs).map fun vs => inV w vs) = some k at h'
      cases q2 : flatL xs with
      | none => rw [q2] at h'; cases h'
      | some ws =>
        rw [q2] at h'
        have hk := Option.some.inj h'
        obtain rfl := scalV_rep q ra
        obtain rfl := flatL_rep q2 r
        exact .inr (.inr (.inl ⟨p, _, rfl, .inr (same_seqT h1 hq), scalV_flat q, flatL_flat q2, hk.symm⟩))
  | @lst p xs vs hq r =>
    have part : ((pyD a).bind fun p => (pyL xs).bind fun ps => if SeqAt.shaped p = true ∧ SeqAt.shaped (.list ps) = true then some (ps.any fun z => PyData.eqv z p) else none) = some k → ∃ d ds, Dp X.K H x d ∧ Dp X.K H (.ref p) (.list ds) ∧ SeqAt.shaped d = true ∧ SeqAt.shaped (.list ds) = true ∧ k = ds.any fun z => PyData.eqv z d := fun h => by
      cases q : pyD a with
      | none => rw [q] at h; cases h
      | some d =>
        rw [q] at h
        change ((pyL xs).bind fun ps => if SeqAt.shaped d = true ∧ SeqAt.shaped (.list ps) = true then some (ps.any fun z => PyData.eqv z d) else none) = some k at h
        cases q2 : pyL xs with
        | none => rw [q2] at h; cases h
        | some ds =>
          rw [q2] at h
          change (if SeqAt.shaped d = true ∧ SeqAt.shaped (.list ds) = true then some (ds.any fun z => PyData.eqv z d) else none) = some k at h
          by_cases hs : SeqAt.shaped d = true ∧ SeqAt.shaped (.list ds) = true
          · rw [if_pos hs] at h
            exact ⟨d, ds, dp_of h1 q ra, .lst (SqL.of (h1 _ _ hq)) (dps_of' h1 r _ q2), hs.1, hs.2, (Option.some.inj h).symm⟩
          · rw [if_neg hs] at h
            cases h
    have h' : (match scalV a, flatL xs with
      | some v, some vs => some (inV v vs)
      | _, _ => (pyD a).bind fun p => (pyL xs).bind fun ps => if SeqAt.shaped p = true ∧ SeqAt.shaped (.list ps) = true then some (ps.any fun z => PyData.eqv z p) else none) = some k := by cases a <;> exact h
    cases q : scalV a with
    | none => rw [q] at h'; exact .inr (.inr (.inr (part h')))
    | some w =>
      cases q2 : flatL xs with
      | none => rw [q, q2] at h'; exact .inr (.inr (.inr (part h')))
      | some ws =>
        rw [q, q2] at h'
        have hk := Option.some.inj h'
        obtain rfl := scalV_rep q ra
        obtain rfl := flatL_rep q2 r
        exact .inr (.inr (.inl ⟨p, _, rfl, .inl (SqL.of (h1 _ _ hq)), scalV_flat q, flatL_flat q2, hk.symm⟩))
  | _ => cases a <;> cases h
theorem ok_in : OpOk X fa (rInAll X.K) inD := by
  intro F H s x y a b Q h1 h2 ra rb h
  unfold inD at h
  cases q : inB a b with
  | none => rw [q] at h; exact h.elim
  | some k =>
    rw [q] at h
    have z : Q (.bl k) H := GoodO.here h1 h2 (.bl k) h
    rcases inB_cases h1 ra rb q with ⟨i, j, e1, e2, e3⟩ | ⟨p, ov, e1, e2, e3⟩ | ⟨p, xs, e1, e2, e3, e4, e5⟩ | ⟨d, ds, e1, e2, e3, e4, e5⟩
    · exact .inl ⟨i, j, e1, e2, by rw [← e3]; exact z⟩
    · exact .inr (.inl ⟨p, ov, e1, e2, by rw [← e3]; exact z⟩)
    · exact .inr (.inr (.inl ⟨p, xs, e1, e2, e3, e4, by rw [if_neg Bool.false_ne_true, ← e5]; exact z⟩))
    · exact .inr (.inr (.inr ⟨d, ds, e1, e2, e3, e4, by rw [← e5]; exact z⟩))
theorem ok_nin : OpOk X fa (rNInAll X.K) ninD := by
  intro F H s x y a b Q h1 h2 ra rb h
  unfold ninD at h
  cases q : inB a b with
  | none => rw [q] at h; exact h.elim
  | some k =>
    rw [q] at h
    have z : Q (.bl (!k)) H := GoodO.here h1 h2 (.bl _) h
    rcases inB_cases h1 ra rb q with ⟨i, j, e1, e2, e3⟩ | ⟨p, ov, e1, e2, e3⟩ | ⟨p, xs, e1, e2, e3, e4, e5⟩ | ⟨d, ds, e1, e2, e3, e4, e5⟩
    · exact .inl ⟨i, j, e1, e2, by rw [← e3]; exact z⟩
    · exact .inr (.inl ⟨p, ov, e1, e2, by rw [← e3]; exact z⟩)
    · exact .inr (.inr (.inl ⟨p, xs, e1, e2, e3, e4, by rw [if_pos rfl, ← e5]; exact z⟩))
    · exact .inr (.inr (.inr ⟨d, ds, e1, e2, e3, e4, by rw [← e5]; exact z⟩))

/-! ### items, slices -/
def ixD : D → D → Option D
  | .lst xs, .int i => atI xs i
  | .tup xs, .int i => atI xs i
  | .str z, .int i => if z.length ≤ sizeLine then (atI z.cps.toList i).map fun c => .str ⟨#[c]⟩ else none
  | .dic kvs, k => (keyD k).bind fun k => lookD kvs k
  | _, _ => none
def rIxD : R2 := fun x y H Q => ∃ a v, x = .ref a ∧ DGet H a y (some v) ∧ Q v H
theorem ix_dk (hu : X.A.units + 1 < cLine) : IxR X rIxD := by
  intro value slice pins s σ H x y v u Q I rx ry h hs
  obtain ⟨a, w, rfl, g, q⟩ := h
  obtain rfl : v = Value.ref a := rx
  exact PyProof.Rows.tail_any (dict_typeIs I g) PySem.F.slot_dict_getitem.lookup (d_getItem hu I g ry fun w' s3 I3 rw' => ⟨w, H, I3, rw', q⟩) hs
theorem RepL.atI {K : PySem.W.Frag} {F : Hp} {ds : List D} {vs : List V} {i : Int} {d : D} (r : RepL K fa F ds vs) (h : atI ds i = some d) : ∃ v, L2.atI vs i = some v ∧ Rep K fa F d v := by
  unfold L2.atI at h ⊢
  rw [← r.length]
  cases q : ixN ds.length i with
  | none => rw [q] at h; cases h
  | some j =>
    rw [q] at h
    exact r.get' h
theorem ok_ix : OpOk X fa (fun x y H Q => rIx X.K x y H Q ∨ rIxD x y H Q) ixD := by
  intro F H s x y a b Q h1 h2 ra rb h
  cases ra with
  | lst hq r =>
    cases rb with
    | int i =>
      change GoodO X fa F H s (atI _ i) Q at h
      cases q : atI _ i with
      | none => rw [q] at h; exact h.elim
      | some d =>
        rw [q] at h
        obtain ⟨v, hv, rv⟩ := r.atI q
        exact .inl (.inl ⟨_, _, i, v, rfl, rfl, SqL.of (h1 _ _ hq), hv, GoodO.here h1 h2 rv h⟩)
    | _ => exact h.elim
  | tup hq r =>
    cases rb with
    | int i =>
      change GoodO X fa F H s (atI _ i) Q at h
      cases q : atI _ i with
      | none => rw [q] at h; exact h.elim
      | some d =>
        rw [q] at h
        obtain ⟨v, hv, rv⟩ := r.atI q
        exact .inl (.inr (.inl ⟨_, _, i, v, rfl, rfl, same_seqT h1 hq, hv, GoodO.here h1 h2 rv h⟩))
    | _ => exact h.elim
  | str z =>
    cases rb with
    | int i =>
      change GoodO X fa F H s (if z.length ≤ sizeLine then (atI z.cps.toList i).map fun c => .str ⟨#[c]⟩ else none) Q at h
      by_cases hl : z.length ≤ sizeLine
      · rw [if_pos hl] at h
        cases q : atI z.cps.toList i with
        | none => rw [q] at h; exact h.elim
        | some c =>
          rw [q] at h
          exact .inl (.inr (.inr ⟨z, i, c, rfl, rfl, hl, q, GoodO.here h1 h2 (.str _) h⟩))
      · rw [if_neg hl] at h
        exact h.elim
    | _ => exact h.elim
  | @dic p kvs vs hq r =>
    have h' : GoodO X fa F H s ((keyD b).bind fun k => lookD kvs k) Q := by cases b <;> exact h
    cases q : keyD b with
    | none => rw [q] at h'; exact h'.elim
    | some k =>
      rw [q] at h'
      change GoodO X fa F H s (lookD kvs k) Q at h'
      cases q2 : lookD kvs k with
      | none => rw [q2] at h'; exact h'.elim
      | some d =>
        rw [q2] at h'
        obtain ⟨v, hv, rv⟩ := (lookD_rep (k := k) r).1 d q2
        obtain rfl := key_rep q rb
        refine .inr ⟨p, v, rfl, ?_, GoodO.here h1 h2 rv h'⟩
        rw [← hv]
        exact dget_rd (k := k) (same_rd h1 hq)
  | _ => cases b <;> exact h.elim
theorem ed_ix (hu : X.A.units + 1 < cLine) (ha : ED X fa W a f1) (hb : ED X fa W b f2) (hs : PlainIx b := by exact fun _ _ => rfl) : ED X fa W (.Subscript a b pos) (dOp ixD f1 f2) := by
  obtain ⟨ta, pa, ka⟩ := ha
  obtain ⟨tb, pb, kb⟩ := hb
  exact ⟨_, pe_ix (ix_seq.or (ix_dk hu)) pa pb hs, tok_op ok_ix ka kb⟩
/-- an optional part of a slice -/
def OJ (X : Cx) (fa : Option FA) (W : L2.St → XK) (e : Option Expr) (f : Env' → M (Option Int)) : Prop := ∃ t, PO X e t ∧
  ∀ (σ : L2.St) (F H : Hp) (ρ : Env') (s : FS) (Q : Option Int → Hp → Prop), Same F H → FeedOk X.K fa F H s → EnvOk X.K fa F σ ρ →
    (match f ρ s with
      | .bad => False
      | .ok i s' => ∀ F' H', Ext fa F H F' H' → FeedOk X.K fa F' H' s' → Q i H'
      | .err e s' => ∀ cls dd F' H', Ext fa F H F' H' → FeedOk X.K fa F' H' s' → RepX X.K X.mg fa F' H' e cls dd → W σ cls dd H') → t σ H Q
def intD : D → Option (Option Int)
  | .int i => some (some i)
  | _ => none
def oNo : Env' → M (Option Int) := fun _ => M.pure none
def oSome (f : Env' → M D) : Env' → M (Option Int) := fun ρ => (f ρ).bind fun x => M.lift (intD x)
theorem oj_none : OJ X fa W none oNo := ⟨_, po_none, fun σ F H ρ s Q h1 h2 h3 h => h F H (Ext.refl h1) h2⟩
theorem oj_some (ha : ED X fa W e f1) : OJ X fa W (some e) (oSome f1) := by
  obtain ⟨t, p, k⟩ := ha
  refine ⟨_, po_some p, fun σ F H ρ s Q h1 h2 h3 h => ?_⟩
  refine k σ F H ρ s _ h1 h2 h3 ?_
  unfold oSome at h
  change (match (f1 ρ s).bnd (fun x => M.lift (intD x)) with
      | .bad => False
      | .ok i s' => ∀ F' H', Ext fa F H F' H' → FeedOk X.K fa F' H' s' → Q i H'
      | .err e s' => ∀ cls dd F' H', Ext fa F H F' H' → FeedOk X.K fa F' H' s' → RepX X.K X.mg fa F' H' e cls dd → W σ cls dd H') at h
  generalize f1 ρ s = r at h
  cases r with
  | bad => exact h
  | err e s' => exact h
  | ok x s' =>
    intro v F' H' e o r
    cases r with
    | int i => exact ⟨i, rfl, h F' H' e o⟩
    | _ => exact h.elim
def slD (x : D) (lo hi : Option Int) : Option D :=
  match x with
  | .lst xs => some (.lst ((xs.drop (HT.sIx xs.length 0 lo)).take (HT.sIx xs.length xs.length hi - HT.sIx xs.length 0 lo)))
  | .tup xs => some (.tup ((xs.drop (HT.sIx xs.length 0 lo)).take (HT.sIx xs.length xs.length hi - HT.sIx xs.length 0 lo)))
  | .scr ns => some (.lst (((ns.drop (HT.sIx ns.length 0 lo)).take (HT.sIx ns.length ns.length hi - HT.sIx ns.length 0 lo)).map D.int))
  | .str z => if z.length ≤ sizeLine then some (.str (L2.cutS z lo hi)) else none
  | _ => none
def dSl (f : Env' → M D) (lo hi : Env' → M (Option Int)) : Env' → M D := fun ρ => (f ρ).bind fun x => (lo ρ).bind fun l => (hi ρ).bind fun u => M.lift (slD x l u)
theorem RepL.cut {K : PySem.W.Frag} {F : Hp} {ds : List D} {vs : List V} (r : RepL K fa F ds vs) (lo hi : Option Int) : RepL K fa F ((ds.drop (HT.sIx ds.length 0 lo)).take (HT.sIx ds.length ds.length hi - HT.sIx ds.length 0 lo)) (cutV vs lo hi) := by
  unfold cutV
  rw [← r.length]
  exact (r.drop _).take _
theorem SlR.or {r r' : V → Option Int → Option Int → Hp → VK → Prop} (h : SlR X r) (h' : SlR X r') : SlR X (fun x lo hi H Q => r x lo hi H Q ∨ r' x lo hi H Q) := L2.SlR.or h h'
theorem ed_slice {lo hi : Option Expr} {p2 : Pos} {g1 g2 : Env' → M (Option Int)} (ha : ED X fa W e f1) (hl : OJ X fa W lo g1) (hu : OJ X fa W hi g2) : ED X fa W (.Subscript e (.Slice lo hi none p2) pos) (dSl f1 g1 g2) := by
  obtain ⟨ta, pa, ka⟩ := ha
  obtain ⟨tl, pl, kl⟩ := hl
  obtain ⟨tu, pu, ku⟩ := hu
  refine ⟨_, pe_slice (SlR.or sl_list (SlR.or L2.sl_tupA sl_str)) pa pl pu, fun σ F H ρ s Q h1 h2 h3 h => ?_⟩
  refine ka.then Good.tgt h1 h2 h3 h fun x s1 v F1 H1 e1 o1 r1 v1 h' => ?_
  refine kl σ F1 H1 ρ s1 _ e1.fh o1 v1 ?_
  change Good X fa (W σ) F1 H1 ((g1 ρ s1).bnd _) Q at h'
  generalize g1 ρ s1 = r at h'
  cases r with
  | bad => exact h'
  | err e s' => exact h'
  | ok i s2 =>
    intro F2 H2 e2 o2
    refine ku σ F2 H2 ρ s2 _ e2.fh o2 (v1.mono e2.ff) ?_
    change Good X fa (W σ) F1 H1 ((g2 ρ s2).bnd _) Q at h'
    generalize g2 ρ s2 = r at h'
    cases r with
    | bad => exact h'
    | err e s' => exact fun c dd F' H' e' => h' c dd F' H' (e2.trans e')
    | ok j s3 =>
      intro F3 H3 e3 o3
      have h4 : GoodO X fa F3 H3 s3 (slD x i j) Q := Good.lift (Good.tgt.of_ext (e2.trans e3) h')
      have r3 := r1.mono (e2.ff.trans e3.ff)
      clear r1
      cases r3 with
      | lst hq r =>
        refine .inl ⟨_, _, rfl, SqL.of (e3.fh _ _ hq), fun p hp => ?_⟩
        exact GoodO.new e3.fh o3 hp (.lst upd_same ((r.cut i j).mono (Ext.new (fa := fa) e3.fh hp).ff)) h4
      | @scr p ns hq =>
        refine .inl ⟨p, _, rfl, Same.seq e3.fh hq, fun q hp => ?_⟩
        refine GoodO.new e3.fh o3 hp (.lst upd_same ?_) h4
        have z := RepL.cut (RepL.ints (K := X.K) (fa := fa) (F := upd F3 q (.lst (cutV (ns.map V.int) i j))) ns) i j
        rw [List.length_map, ← List.map_drop, ← List.map_take] at z
        exact z
      | tup hq r =>
        refine .inr (.inl ⟨_, _, rfl, same_seqT e3.fh hq, fun hw => ?_, fun hw p hp => ?_⟩)
        · refine GoodO.here e3.fh o3 (.tup hq ?_) h4
          have z := r.cut i j
          have : ∀ (vs : List V), HT.sIx vs.length 0 i = 0 ∧ HT.sIx vs.length vs.length j = vs.length → cutV vs i j = vs := fun vs q => by
            unfold cutV
            rw [q.1, q.2]
            simp
          rw [this _ hw] at z
          exact z
        · exact GoodO.new e3.fh o3 hp (.tup (SqT.of upd_same) ((r.cut i j).mono (Ext.new (fa := fa) e3.fh hp).ff)) h4
      | str z =>
        change GoodO X fa F3 H3 s3 (if z.length ≤ sizeLine then some (.str (L2.cutS z i j)) else none) Q at h4
        by_cases hl : z.length ≤ sizeLine
        · rw [if_pos hl] at h4
          exact .inr (.inr ⟨z, rfl, hl, GoodO.here e3.fh o3 (.str _) h4⟩)
        · rw [if_neg hl] at h4
          exact h4.elim
      | _ => exact h4.elim
/-- d.get(k, x) -/
def dGet2 (f g h : Env' → M D) : Env' → M D := fun ρ => (f ρ).bind fun x => match x with
  | .dic kvs => (g ρ).bind fun k => (h ρ).bind fun z => M.lift ((keyD k).map fun k => (lookD kvs k).getD z)
  | _ => M.bad
theorem ed_get2 (hu : X.A.units + 1 < cLine) (ho : ED X fa W o f1) (ha : ED X fa W a f2) (hb : ED X fa W b f3) (base : attributeBase o "get" X.env (eval o X.env) = eval o X.env := by rfl)
    (few : ((backTo cpos (starEach [a, b] X.env)).all (fun x => !x.1) && (backToKw cpos (keywordEach [] X.env)).all (fun x => x.1.isSome) && decide (([a, b] : List Expr).length + ([] : List Keyword).length + (if ([] : List Keyword).isEmpty then 0 else 1) < 30)) = true := by rfl)
    (line : (apos.endLine == cpos.line) = true := by rfl) (trees : backTo cpos (starEach [a, b] X.env) = [(false, eval a X.env), (false, eval b X.env)] := by rfl) :
    ED X fa W (.Call (.Attribute o "get" apos) [a, b] [] cpos) (dGet2 f1 f2 f3) := by
  obtain ⟨to, po, ko⟩ := ho
  obtain ⟨ta, pa, ka⟩ := ha
  obtain ⟨tb, pb, kb⟩ := hb
  refine ⟨_, pe_dget2 hu po pa pb ⟨base, few, line, trees⟩, fun σ F H ρ s Q h1 h2 h3 h => ?_⟩
  refine ko.then Good.tgt h1 h2 h3 h fun x s1 v F1 H1 e1 o1 r1 v1 h' => ?_
  cases r1 with
  | @dic p kvs vs hq r =>
    refine ⟨p, rfl, .inl ⟨vs, same_rd e1.fh hq⟩, ?_⟩
    refine ka.then Good.tgt e1.fh o1 v1 h' fun kd s2 w F2 H2 e2 o2 r2 v2 h'' => ?_
    refine kb.then Good.tgt e2.fh o2 v2 h'' fun z s3 u F3 H3 e3 o3 r3 v3 h4 => ?_
    have h5 := Good.lift h4
    cases q : keyD kd with
    | none => rw [q] at h5; exact h5.elim
    | some k =>
      rw [q] at h5
      change GoodO X fa F3 H3 s3 (some ((lookD kvs k).getD z)) Q at h5
      obtain rfl := key_rep q r2
      refine ⟨_, dget_rd (k := k) (same_rd e3.fh (same_rd e3.ff (same_rd e2.ff hq))), ?_⟩
      obtain ⟨i1, i2⟩ := lookD_rep (k := k) (r.mono (e2.ff.trans e3.ff))
      cases q2 : lookD kvs k with
      | none =>
        rw [q2] at h5
        rw [i2 q2]
        exact GoodO.here e3.fh o3 r3 h5
      | some d =>
        rw [q2] at h5
        obtain ⟨v', hv, rv⟩ := i1 d q2
        rw [hv]
        exact GoodO.here e3.fh o3 rv h5
  | _ => exact h'.elim

/-! ### built-in functions -/
def lenD : List D → Option D
  | [.str z] => if z.length ≤ sizeLine then some (.int z.length) else none
  | [.lst xs] => some (.int xs.length)
  | [.tup xs] => some (.int xs.length)
  | [.dic xs] => some (.int xs.length)
  | _ => none
theorem crl_len : CallR X (.builtin "len") (fun xs H Q => (∃ p ys, xs = [.ref p] ∧ (SqL X.K H p ys ∨ SqT X.K H p ys) ∧ Q (.int ys.length) H) ∨ ((∃ z, xs = [.str z] ∧ z.length ≤ sizeLine ∧ Q (.int z.length) H) ∨ (∃ a kvs, xs = [V.ref a] ∧ Rd H a (.dK kvs) ∧ Q (.int kvs.length) H))) := CallR.or call_len_seq (CallR.or call_len_str call_lenR)
theorem one_arg {K : PySem.W.Frag} {F : Hp} {x : D} {as : List D} {xs : List V} (e : as = [x]) (r : RepL K fa F as xs) : ∃ v, xs = [v] ∧ Rep K fa F x v := by
  subst e
  cases r with
  | cons r t => cases t; exact ⟨_, rfl, r⟩
theorem ok_len : CallOk X fa (fun xs H Q => (∃ p ys, xs = [.ref p] ∧ (SqL X.K H p ys ∨ SqT X.K H p ys) ∧ Q (.int ys.length) H) ∨ ((∃ z, xs = [.str z] ∧ z.length ≤ sizeLine ∧ Q (.int z.length) H) ∨ (∃ a kvs, xs = [V.ref a] ∧ Rd H a (.dK kvs) ∧ Q (.int kvs.length) H))) lenD := by
  intro F H s xs as Q h1 h2 r h
  cases r with
  | nil => exact h.elim
  | cons r t =>
    cases t with
    | cons _ _ => cases r <;> exact h.elim
    | nil =>
      cases r with
      | lst hq r =>
        refine .inl ⟨_, _, rfl, .inl (SqL.of (h1 _ _ hq)), ?_⟩
        rw [← r.length]
        exact GoodO.here h1 h2 (.int _) h
      | tup hq r =>
        refine .inl ⟨_, _, rfl, .inr (same_seqT h1 hq), ?_⟩
        rw [← r.length]
        exact GoodO.here h1 h2 (.int _) h
      | dic hq r =>
        refine .inr (.inr ⟨_, _, rfl, same_rd h1 hq, ?_⟩)
        rw [← r.length]
        exact GoodO.here h1 h2 (.int _) h
      | str z =>
        by_cases hl : z.length ≤ sizeLine
        · rw [show lenD [.str z] = some (.int z.length) from if_pos hl] at h
          exact .inr (.inl ⟨z, rfl, hl, GoodO.here h1 h2 (.int _) h⟩)
        · rw [show lenD [.str z] = none from if_neg hl] at h
          exact h.elim
      | _ => exact h.elim
def listD : List D → Option D
  | [.lst xs] => some (.lst xs)
  | [.tup xs] => some (.lst xs)
  | _ => none
theorem ok_list : CallOk X fa (fun xs H Q => ∃ p ys, xs = [.ref p] ∧ (SqL X.K H p ys ∨ SqT X.K H p ys) ∧ ∀ l, H l = none → Q (.ref l) (upd H l (.lst ys))) listD := by
  intro F H s xs as Q h1 h2 r h
  cases r with
  | nil => exact h.elim
  | cons r t =>
    cases t with
    | cons _ _ => cases r <;> exact h.elim
    | nil =>
      cases r with
      | lst hq r => exact ⟨_, _, rfl, .inl (SqL.of (h1 _ _ hq)), fun p hp => GoodO.new h1 h2 hp (.lst upd_same (r.mono (Ext.new (fa := fa) h1 hp).ff)) h⟩
      | tup hq r => exact ⟨_, _, rfl, .inr (same_seqT h1 hq), fun p hp => GoodO.new h1 h2 hp (.lst upd_same (r.mono (Ext.new (fa := fa) h1 hp).ff)) h⟩
      | _ => exact h.elim
def tupleD : List D → Option D
  | [.lst xs] => some (.tup xs)
  | [.tup xs] => some (.tup xs)
  | _ => none
theorem ok_tuple : CallOk X fa (fun xs H Q => ∃ p ys, xs = [.ref p] ∧ ((SqL X.K H p ys ∧ ∀ l, H l = none → Q (.ref l) (upd H l (.tup ys))) ∨ (SqT X.K H p ys ∧ Q (.ref p) H))) tupleD := by
  intro F H s xs as Q h1 h2 r h
  cases r with
  | nil => exact h.elim
  | cons r t =>
    cases t with
    | cons _ _ => cases r <;> exact h.elim
    | nil =>
      cases r with
      | lst hq r => exact ⟨_, _, rfl, .inl ⟨SqL.of (h1 _ _ hq), fun p hp => GoodO.new h1 h2 hp (.tup (SqT.of upd_same) (r.mono (Ext.new (fa := fa) h1 hp).ff)) h⟩⟩
      | tup hq r => exact ⟨_, _, rfl, .inr ⟨same_seqT h1 hq, GoodO.here h1 h2 (.tup hq r) h⟩⟩
      | _ => exact h.elim
def intF : List D → Option D
  | [.int i] => some (.int i)
  | _ => none
theorem ok_int : CallOk X fa (fun xs H Q => (∃ i, xs = [.int i] ∧ Q (.int i) H) ∨ ∃ k, xs = [.bl k] ∧ Q (.int (if k then 1 else 0)) H) intF := by
  intro F H s xs as Q h1 h2 r h
  cases r with
  | nil => exact h.elim
  | cons r t =>
    cases t with
    | cons _ _ => cases r <;> exact h.elim
    | nil =>
      cases r with
      | int i => exact .inl ⟨i, rfl, GoodO.here h1 h2 (.int _) h⟩
      | _ => exact h.elim
def intsD : List D → Option (List Int)
  | [] => some []
  | .int i :: xs => (intsD xs).map fun r => i :: r
  | _ => none
def blsD : List D → Option (List Bool)
  | [] => some []
  | .bl i :: xs => (blsD xs).map fun r => i :: r
  | _ => none
theorem intsD_rep {K : PySem.W.Frag} {F : Hp} : ∀ {xs : List D} {vs : List V} {ns : List Int}, intsD xs = some ns → RepL K fa F xs vs → vs = ns.map V.int
  | _, _, _, h, .nil => by cases h; rfl
  | x :: xs, v :: vs, ns, h, .cons r t => by
    cases r with
    | int i =>
      rw [intsD] at h
      cases q : intsD xs with
      | none => rw [q] at h; cases h
      | some ms => rw [q] at h; cases h; rw [intsD_rep q t]; rfl
    | _ => cases h
theorem blsD_rep {K : PySem.W.Frag} {F : Hp} : ∀ {xs : List D} {vs : List V} {ns : List Bool}, blsD xs = some ns → RepL K fa F xs vs → vs = ns.map V.bl
  | _, _, _, h, .nil => by cases h; rfl
  | x :: xs, v :: vs, ns, h, .cons r t => by
    cases r with
    | bl i =>
      rw [blsD] at h
      cases q : blsD xs with
      | none => rw [q] at h; cases h
      | some ms => rw [q] at h; cases h; rw [blsD_rep q t]; rfl
    | _ => cases h
def maxL : List Int → Int
  | [] => 0
  | x :: xs => xs.foldl max x
theorem foldl_max : ∀ (xs : List Int) (a : Int), a ≤ xs.foldl max a ∧ (∀ x ∈ xs, x ≤ xs.foldl max a) ∧ (xs.foldl max a = a ∨ xs.foldl max a ∈ xs)
  | [], a => ⟨Int.le_refl _, fun _ h => by simp at h, .inl rfl⟩
  | x :: xs, a => by
    obtain ⟨h1, h2, h3⟩ := foldl_max xs (max a x)
    simp only [List.foldl_cons]
    refine ⟨by omega, fun y hy => ?_, ?_⟩
    · rcases List.mem_cons.mp hy with e | e
      · subst e; omega
      · exact h2 y e
    · rcases h3 with e | e
      · rcases Int.le_total a x with q | q
        · right; rw [e, Int.max_eq_right q]; exact List.mem_cons_self
        · left; rw [e, Int.max_eq_left q]
      · right; exact List.mem_cons_of_mem _ e
theorem maxL_uniq {ns : List Int} {m : Int} (h0 : m ∈ ns) (h : ∀ y ∈ ns, y ≤ m) : m = maxL ns := by
  cases ns with
  | nil => simp at h0
  | cons x xs =>
    obtain ⟨h1, h2, h3⟩ := foldl_max xs x
    show m = xs.foldl max x
    have a1 : m ≤ xs.foldl max x := by
      rcases List.mem_cons.mp h0 with e | e
      · rw [e]; exact h1
      · exact h2 m e
    have a2 : xs.foldl max x ≤ m := by
      rcases h3 with e | e
      · rw [e]; exact h x List.mem_cons_self
      · exact h _ (List.mem_cons_of_mem _ e)
    omega
/-- max of a list of ints; max(a, b) -/
def maxD : List D → Option D
  | [.lst xs] => (intsD xs).bind fun ns => if ns = [] then none else some (.int (maxL ns))
  | [.int a, .int b] => some (.int (if b > a then b else a))
  | _ => none
end
end DL

set_option Elab.async false
set_option linter.all false
set_option maxRecDepth 100000
set_option maxHeartbeats 2000000
/-! The data layer: more built-in functions; defs. -/
namespace DL
open PySem PySem.Spec PyProof.Rows L2
section
variable {X : Cx} {fa : Option FA} {W : L2.St → XK} {a b c e o : Expr} {es rest : List Expr} {pos p apos cpos : Pos} {f1 f2 f3 : Env' → M D} {fl : Env' → M (List D)}
theorem crl_max (hc : X.calm = true) : CallR X (.builtin "max") (fun xs H Q => rMax X.K xs H Q ∨ ∃ i j, xs = [.int i, .int j] ∧ Q (.int (if j > i then j else i)) H) := CallR.or (cr_max hc) (call_max2 hc)
theorem ok_max : CallOk X fa (fun xs H Q => rMax X.K xs H Q ∨ ∃ i j, xs = [.int i, .int j] ∧ Q (.int (if j > i then j else i)) H) maxD := by
  intro F H s xs as Q h1 h2 r h
  cases r with
  | nil => exact h.elim
  | cons r t =>
    cases t with
    | nil =>
      cases r with
      | @lst p xs vs hq r =>
        change GoodO X fa F H s ((intsD xs).bind fun ns => if ns = [] then none else some (.int (maxL ns))) Q at h
        cases q : intsD xs with
        | none => rw [q] at h; exact h.elim
        | some ns =>
          rw [q] at h
          change GoodO X fa F H s (if ns = [] then none else some (.int (maxL ns))) Q at h
          by_cases hn : ns = []
          · rw [if_pos hn] at h; exact h.elim
          · rw [if_neg hn] at h
            refine .inl ⟨p, ns, rfl, ?_, List.length_pos_iff.mpr hn, fun m hm hle => ?_⟩
            · rw [← intsD_rep q r]
              exact SqL.of (h1 _ _ hq)
            · rw [maxL_uniq hm hle]
              exact GoodO.here h1 h2 (.int _) h
      | _ => exact h.elim
    | cons r2 t2 =>
      cases t2 with
      | cons _ _ => cases r <;> cases r2 <;> exact h.elim
      | nil =>
        cases r with
        | int i =>
          cases r2 with
          | int j => exact .inr ⟨i, j, rfl, GoodO.here h1 h2 (.int _) h⟩
          | _ => exact h.elim
        | _ => cases r2 <;> exact h.elim
def min2D : List D → Option D
  | [.int a, .int b] => some (.int (if b < a then b else a))
  | _ => none
theorem ok_min2 : CallOk X fa (fun xs H Q => ∃ i j, xs = [.int i, .int j] ∧ Q (.int (if j < i then j else i)) H) min2D := by
  intro F H s xs as Q h1 h2 r h
  cases r with
  | nil => exact h.elim
  | cons r t =>
    cases t with
    | nil => cases r <;> exact h.elim
    | cons r2 t2 =>
      cases t2 with
      | cons _ _ => cases r <;> cases r2 <;> exact h.elim
      | nil =>
        cases r with
        | int i =>
          cases r2 with
          | int j => exact ⟨i, j, rfl, GoodO.here h1 h2 (.int _) h⟩
          | _ => exact h.elim
        | _ => cases r2 <;> exact h.elim
def allD : List D → Option D
  | [.lst xs] => (blsD xs).map fun bs => .bl (bs.all id)
  | _ => none
def anyD : List D → Option D
  | [.lst xs] => (blsD xs).map fun bs => .bl (bs.any id)
  | _ => none
def sumD : List D → Option D
  | [.lst xs] => (intsD xs).map fun bs => .int bs.sum
  | _ => none
theorem ok_all : CallOk X fa (rAll X.K) allD := by
  intro F H s xs as Q h1 h2 r h
  cases r with
  | nil => exact h.elim
  | cons r t =>
    cases t with
    | cons _ _ => cases r <;> exact h.elim
    | nil =>
      cases r with
      | @lst p xs vs hq r =>
        change GoodO X fa F H s ((blsD xs).map fun bs => .bl (bs.all id)) Q at h
        cases q : blsD xs with
        | none => rw [q] at h; exact h.elim
        | some bs =>
          rw [q] at h
          exact ⟨p, bs, rfl, by rw [← blsD_rep q r]; exact SqL.of (h1 _ _ hq), GoodO.here h1 h2 (.bl _) h⟩
      | _ => exact h.elim
theorem ok_any : CallOk X fa (rAny X.K) anyD := by
  intro F H s xs as Q h1 h2 r h
  cases r with
  | nil => exact h.elim
  | cons r t =>
    cases t with
    | cons _ _ => cases r <;> exact h.elim
    | nil =>
      cases r with
      | @lst p xs vs hq r =>
        change GoodO X fa F H s ((blsD xs).map fun bs => .bl (bs.any id)) Q at h
        cases q : blsD xs with
        | none => rw [q] at h; exact h.elim
        | some bs =>
          rw [q] at h
          exact ⟨p, bs, rfl, by rw [← blsD_rep q r]; exact SqL.of (h1 _ _ hq), GoodO.here h1 h2 (.bl _) h⟩
      | _ => exact h.elim
theorem ok_sum : CallOk X fa (rSum X.K) sumD := by
  intro F H s xs as Q h1 h2 r h
  cases r with
  | nil => exact h.elim
  | cons r t =>
    cases t with
    | cons _ _ => cases r <;> exact h.elim
    | nil =>
      cases r with
      | @lst p xs vs hq r =>
        change GoodO X fa F H s ((intsD xs).map fun bs => .int bs.sum) Q at h
        cases q : intsD xs with
        | none => rw [q] at h; exact h.elim
        | some bs =>
          rw [q] at h
          exact ⟨p, bs, rfl, by rw [← intsD_rep q r]; exact SqL.of (h1 _ _ hq), GoodO.here h1 h2 (.int _) h⟩
      | _ => exact h.elim

/-! ### isinstance with built-in classes -/
def tyD : D → Option String
  | .non => some "NoneType"
  | .bl _ => some "bool"
  | .int _ => some "int"
  | .str _ => some "str"
  | .tup _ => some "tuple"
  | .lst _ => some "list"
  | .dic _ => some "dict"
  | _ => none
theorem tyD_rep {F H : Hp} {d : D} {v : V} {t : String} (h1 : Same F H) (h : tyD d = some t) (r : Rep X.K fa F d v) : TyX X.K H v (.type t) := by
  cases r with
  | non => cases h; exact .base .non
  | bl b => cases h; exact .base (.bl b)
  | int b => cases h; exact .base (.int b)
  | str b => cases h; exact .base (.str b)
  | tup hq _ =>
    cases h
    rcases same_seqT h1 hq with (h | ⟨o, h⟩) | ⟨o, its, n, hk, hc, _⟩
    · exact .base (.tup h)
    · exact .fTuple h
    · exact .kTuple hk hc
  | lst hq _ => cases h; exact .base (.lst (h1 _ _ hq))
  | dic hq _ =>
    cases h
    rcases same_rd h1 hq with h | ⟨o, h⟩
    · exact .base (.dK h)
    · exact .fDict h
  | feed _ _ => cases h
  | opq _ => cases h
  | ins _ _ _ => cases h
  | ptup _ _ _ => cases h
  | scr _ => cases h
/-- isinstance(x, T) -/
def isiD : List D → Option D
  | [d, .opq (.ty T)] => (tyD d).bind fun t => (kitB t T).map .bl
  | _ => none
theorem ok_isi : CallOk X fa (rIsi X.K) isiD := by
  intro F H s xs as Q h1 h2 r h
  unfold isiD at h
  split at h
  · rename_i d T
    cases r with
    | cons r t =>
      cases t with
      | cons r2 t2 =>
        cases t2
        cases r2
        rename_i v'
        cases q : tyD d with
        | none => rw [q] at h; exact h.elim
        | some t =>
          rw [q] at h
          change GoodO X fa F H s ((kitB t T).map .bl) Q at h
          cases q2 : kitB t T with
          | none => rw [q2] at h; exact h.elim
          | some k =>
            rw [q2] at h
            exact ⟨v', .ty T, .type t, .type T, k, rfl, .ty T, tyD_rep h1 q r, kit_ty q2, GoodO.here h1 h2 (.bl _) h⟩
  · exact h.elim
/-- isinstance(x, (T, ..)), the tuple written there -/
def kitAnyB (t : String) : List String → Option Bool
  | [] => some false
  | c :: r => match kitB t c with
    | some true => some true
    | some false => kitAnyB t r
    | none => none
theorem kitAnyB_ok {K : PySem.W.Frag} {t : String} : ∀ {ts : List String} {k : Bool}, kitAnyB t ts = some k → PySem.W.kitAny K (.type t) (ts.map Value.type) = some k
  | [], k, h => by cases h; rfl
  | c :: r, k, h => by
    rw [kitAnyB] at h
    rw [List.map_cons, PySem.W.kitAny]
    cases q : kitB t c with
    | none => rw [q] at h; cases h
    | some b =>
      rw [q] at h
      rw [kit_ty q]
      cases b with
      | true => exact h
      | false => exact kitAnyB_ok h
def dIsi (ts : List String) (f : Env' → M D) : Env' → M D := fun ρ => (f ρ).bind fun x => M.lift ((tyD x).bind fun t => (kitAnyB t ts).map .bl)
theorem ed_isi2 {x t1 t2 : Str} {n1 n2 : String} {k : Nat} {p1 p2 tp : Pos} (ha : ED X fa W e f1) (hm : X.mg x = none) (m1 : X.mg t1 = none) (m2 : X.mg t2 = none) (hv : bootBuiltins x = some (.builtin "isinstance") := by decide +kernel) (v1 : bootBuiltins t1 = some (.type n1) := by decide +kernel) (v2 : bootBuiltins t2 = some (.type n2) := by decide +kernel)
    (hg : Gl X x := by rfl) (g1 : Gl X t1 := by rfl) (g2 : Gl X t2 := by rfl) (hn : x ≠ "__name__" := by decide) (w1 : t1 ≠ "__name__" := by decide) (w2 : t2 ≠ "__name__" := by decide) (hdb : (x == ("__debug__" : Str)) = false := by decide) (d1 : (t1 == ("__debug__" : Str)) = false := by decide) (d2 : (t2 == ("__debug__" : Str)) = false := by decide)
    (he : starEach [e, .Tuple [.Name t1 p1, .Name t2 p2] k tp] X.env = (false, eval e X.env) :: starEach [.Tuple [.Name t1 p1, .Name t2 p2] k tp] X.env := by rfl) (he2 : starEach [.Tuple [.Name t1 p1, .Name t2 p2] k tp] X.env = (false, eval (.Tuple [.Name t1 p1, .Name t2 p2] k tp) X.env) :: starEach [] X.env := by rfl)
    (s1 : starEach [.Name t1 p1, .Name t2 p2] X.env = (false, eval (.Name t1 p1) X.env) :: starEach [.Name t2 p2] X.env := by rfl) (s2 : starEach [.Name t2 p2] X.env = (false, eval (.Name t2 p2) X.env) :: starEach [] X.env := by rfl)
    (hpl : (backTo pos (starEach [.Tuple [.Name t1 p1, .Name t2 p2] k tp] X.env)).any (·.1) = false := by rfl) : ED X fa W (.Call (.Name x p) [e, .Tuple [.Name t1 p1, .Name t2 p2] k tp] [] pos) (dIsi [n1, n2] f1) := by
  obtain ⟨ta, pa, ka⟩ := ha
  refine ⟨_, pe_callB call_isiT hg hm hv (pa_cons pa (pa_cons (pe_tup (pa_cons (pe_bltn g1 m1 v1 (v := .ty n1) rfl w1 d1) (pa_cons (pe_bltn g2 m2 v2 (v := .ty n2) rfl w2 d2) pa_nil s2) s1)) pa_nil he2) he) hn hdb he hpl, fun σ F H ρ s Q h1 h2 h3 h => ?_⟩
  refine ka.then Good.tgt h1 h2 h3 h fun d s1 v F1 H1 e1 o1 r1 v1 h' => ?_
  refine ⟨by show 2 ≤ sizeLine; decide, fun tp hp => ?_⟩
  have h4 := Good.lift h'
  cases q : tyD d with
  | none => rw [q] at h4; exact h4.elim
  | some t =>
    rw [q] at h4
    change GoodO X fa F1 H1 s1 ((kitAnyB t [n1, n2]).map .bl) Q at h4
    cases q2 : kitAnyB t [n1, n2] with
    | none => rw [q2] at h4; exact h4.elim
    | some b =>
      rw [q2] at h4
      have en := Ext.new (fa := fa) (o := .tup [.ty n1, .ty n2]) e1.fh hp
      exact ⟨v, tp, [.ty n1, .ty n2], .type t, [.type n1, .type n2], b, rfl, upd_same, .cons (.ty n1) (.cons (.ty n2) .nil), tyD_rep (Same.trans e1.fh (fun b o z => by rw [upd_ne (ne_of_none z hp)]; exact z)) q r1, kitAnyB_ok q2, h4 (.bl b) _ _ en (o1.new e1.fh hp) (.bl b)⟩

/-! ### methods of data -/
theorem ed_mt {T id : String} {m : Str} {r : V → List V → Hp → VK → Prop} {g : D → List D → Option D} (pa0 : PlainAttrs T) (slot : Slot T m id) (hty : typeOf (.builtin id) = pure (.type "method_descriptor")) (hm : MtR X id r) (ok : MtOk X fa r g) (ty : ∀ F H d v, Same F H → Rep X.K fa F d v → tyD d = some T → tyV X.K T v H)
    (ht : ∀ d as, g d as ≠ none → tyD d = some T) (ho : ED X fa W o f1) (ha : LD X fa W (e :: es) fl) (hbase : attributeBase o m X.env (eval o X.env) = eval o X.env := by rfl)
    (hfew : ((backTo cpos (starEach (e :: es) X.env)).all (fun x => !x.1) && (backToKw cpos (keywordEach [] X.env)).all (fun x => x.1.isSome) && decide ((e :: es).length + ([] : List Keyword).length + (if ([] : List Keyword).isEmpty then 0 else 1) < 30)) = true := by rfl)
    (hline : (apos.endLine == cpos.line) = true := by rfl) (hs : starEach (e :: es) X.env = (false, eval e X.env) :: starEach es X.env := by rfl) (hplain : (backTo cpos (starEach es X.env)).any (·.1) = false := by rfl) :
    ED X fa W (.Call (.Attribute o m apos) (e :: es) [] cpos) (fun ρ => (f1 ρ).bind fun x => if tyD x = some T then (fl ρ).bind fun xs => M.lift (g x xs) else M.bad) := by
  obtain ⟨to, po, ko⟩ := ho
  obtain ⟨ta, pa, ka⟩ := ha
  refine ⟨_, pe_bm pa0 slot hty hm po pa hbase hfew hline hs hplain, fun σ F H ρ s Q h1 h2 h3 h => ?_⟩
  refine ko.then Good.tgt h1 h2 h3 h fun x s1 v F1 H1 e1 o1 r1 v1 h' => ?_
  by_cases hT : tyD x = some T
  · rw [if_pos hT] at h'
    refine ⟨ty F1 H1 x v e1.fh r1 hT, ?_⟩
    refine ka.then Good.tgt e1.fh o1 v1 h' fun xs s2 ws F2 H2 e2 o2 r2 v2 h'' => ?_
    exact ok F2 H2 s2 v ws x xs Q e2.fh o2 (r1.mono e2.ff) r2 (Good.lift h'')
  · rw [if_neg hT] at h'
    exact h'.elim
theorem tyV_list : ∀ F H d v, Same F H → Rep X.K fa F d v → tyD d = some "list" → tyV X.K "list" v H := by
  intro F H d v h1 r h
  cases r with
  | lst hq _ => exact .inl ⟨rfl, _, SqL.of (h1 _ _ hq)⟩
  | _ => first | cases h | (injection h with h; exact absurd h (by decide))
/-- xs.index(y), flat items -/
def indexD : D → List D → Option D
  | .lst xs, [y] => (scalV y).bind fun w => (flatL xs).bind fun vs => if vs.any (fun z => eqV z w) = true then some (.int (vs.findIdx fun z => eqV z w : Nat)) else none
  | _, _ => none
theorem ok_index : MtOk X fa (rIndex X.K) indexD := by
  intro F H s x xs a as Q h1 h2 r rs h
  cases r with
  | @lst p xs vs hq r =>
    cases rs with
    | nil => exact h.elim
    | cons ry t =>
      cases t with
      | cons _ _ => exact h.elim
      | nil =>
        rename_i y w'
        change GoodO X fa F H s ((scalV y).bind fun w => (flatL xs).bind fun vs => if vs.any (fun z => eqV z w) = true then some (.int (vs.findIdx fun z => eqV z w : Nat)) else none) Q at h
        cases q : scalV y with
        | none => rw [q] at h; exact h.elim
        | some w =>
          rw [q] at h
          change GoodO X fa F H s ((flatL xs).bind fun vs => if vs.any (fun z => eqV z w) = true then some (.int (vs.findIdx fun z => eqV z w : Nat)) else none) Q at h
          cases q2 : flatL xs with
          | none => rw [q2] at h; exact h.elim
          | some us =>
            rw [q2] at h
            change GoodO X fa F H s (if us.any (fun z => eqV z w) = true then some (.int (us.findIdx fun z => eqV z w : Nat)) else none) Q at h
            by_cases hs : us.any (fun z => eqV z w) = true
            · rw [if_pos hs] at h
              obtain rfl := scalV_rep q ry
              obtain rfl := flatL_rep q2 r
              obtain ⟨z, hz, hzw⟩ := List.any_eq_true.mp hs
              have hlt : vs.findIdx (fun z => eqV z w') < vs.length := List.findIdx_lt_length_of_exists ⟨z, hz, hzw⟩
              refine ⟨p, vs, w', _, _, rfl, rfl, SqL.of (h1 _ _ hq), scalV_flat q, flatL_flat q2, List.getElem?_eq_getElem hlt, List.findIdx_getElem (w := hlt), fun m z' hm hz' => ?_, GoodO.here h1 h2 (.int _) h⟩
              have hml : m < vs.length := (List.getElem?_eq_some_iff.mp hz').1
              have e := (List.getElem?_eq_some_iff.mp hz').2
              have := List.not_of_lt_findIdx (p := fun z => eqV z w') hm
              rw [← e]
              simpa using this
            · rw [if_neg hs] at h
              exact h.elim
  | _ => exact h.elim
end
end DL

set_option Elab.async false
set_option linter.all false
set_option maxRecDepth 100000
set_option maxHeartbeats 2000000
/-! The data layer: defs. -/
namespace DL
open PySem PySem.Spec PyProof.Rows L2

/-- a body as a function of its arguments: n names, k parameters -/
def runD (n k : Nat) (body : Sts → M (Fl × Sts)) : List D → M D := fun ds => if ds.length = k then (body (ds.map EV.d ++ List.replicate (n - k) .no)).bind fun p => match p.1 with
  | .nx => M.pure .non
  | .rt d => M.pure d
  | _ => M.bad
  else M.bad
/-- exceptions of a def leave it -/
theorem pass_def {P : Program} {w : World} {K : PySem.W.Frag} {mg : Str → Option Value} {base : Heap} {N : List Str} {qual : Str} {scope : Scope} {f : Addr} {cd : Value} {A : Around} {outer : List Env} {s : Shared} {H : Hp} {E : XK} :
    ∀ σ, PassesAt (L2.CX (cxOf (L2.CX P w) P w K mg base N qual scope f cd A outer s H E).prog (cxOf (L2.CX P w) P w K mg base N qual scope f cd A outer s H E).w) (cxOf (L2.CX P w) P w K mg base N qual scope f cd A outer s H E) σ ((fun _ => E) σ) :=
  fun σ => passAt (W := fun cls d _ H => E cls d H) (takes_of rfl rfl rfl rfl) σ
theorem pass_blk {X : Cx} {s : Shared} {H : Hp} {scope : Scope} {cenv : Env} {fp : List Addr} : ∀ σ, PassesAt (L2.CX X.prog X.w) (X.blk s H scope cenv fp) σ (Wno σ) := by
  intro σ pins H s e s' I c
  obtain ⟨_, _, _, _, _, _, _, _, _, _, _, _, h⟩ := c
  exact h
section
variable {P : Program} {w : World} {K : PySem.W.Frag} {mg : Str → Option Value} {base : Heap}
theorem SOk.start {fa : Option FA} {F H : Hp} {s : FS} {N : List Str} {ds : List D} {vs : List V} (h1 : Same F H) (h2 : FeedOk K fa F H s) (r : RepL K fa F ds vs) (hl : ds.length ≤ N.length) :
    SOk K fa F F H F H (fun _ => 0) (L2.start N vs) (ds.map EV.d ++ List.replicate (N.length - ds.length) .no) s := by
  have low : ∀ (i : Nat) ev, (ds.map EV.d ++ List.replicate (N.length - ds.length) EV.no)[i]? = some ev → (∃ d, ds[i]? = some d ∧ ev = .d d) ∨ ev = .no := fun i ev h => by
    by_cases hi : i < ds.length
    · rw [List.getElem?_append_left (by simpa using hi), List.getElem?_map] at h
      cases q : ds[i]? with
      | none => rw [q] at h; cases h
      | some d => rw [q] at h; cases h; exact .inl ⟨d, rfl, rfl⟩
    · rw [List.getElem?_append_right (by simp; omega), List.getElem?_replicate] at h
      split at h
      · cases h; exact .inr rfl
      · cases h
  refine ⟨Ext.refl h1, Same.refl _, h2, by unfold L2.start; simp [r.length], fun i ev h => ?_, fun i j e e' h _ ho => ?_⟩
  · rcases low i ev h with ⟨d, hd, rfl⟩ | rfl
    · obtain ⟨v, hv, rv⟩ := r.get' hd
      refine ⟨v, ?_, rv⟩
      unfold L2.start
      rw [List.getElem?_append_left (by simpa using (List.getElem?_eq_some_iff.mp hv).1), List.getElem?_map, hv]
      rfl
    · trivial
  · rcases low i e h with ⟨d, hd, rfl⟩ | rfl <;> cases ho
theorem dsp_len {n k : Nat} {body : Sts → M (Fl × Sts)} {vs : List V} {H : Hp} {Q : VK} {E : XK} (h : DSp K mg (runD n k body) vs H Q E) : vs.length = k := by
  obtain ⟨fa, F, s, ds, h1, h2, r, g⟩ := h
  rw [← r.length]
  by_cases e : ds.length = k
  · exact e
  · unfold runD at g
    rw [if_neg e] at g
    exact g.elim
/-- THE RULE: a def whose body does `body` computes runD body -/
theorem fn_d {x qual : Str} {st : Stmt} {f : Addr} {fd : FuncData} {N ps : List Str} {k : Nat} {body : Sts → M (Fl × Sts)} (F : Fun K x qual st f fd) (S : FnScope N ps (defScope st)) (hN : ps.length ≤ N.length)
    (hbody : ∀ (cdv : Value) (A : Around) (outer : List Env) (s : Shared) (H : Hp) (E : XK) (fa : Option FA), Room k (A.deeper (envOfC qual (defScope st) s.heap.objs.size f cdv)) →
      SSJ (cxOf (L2.CX P w) P w K mg base N qual (defScope st) f cdv A outer s H E) fa E (defBody st) body) :
    FnOk P w K mg base (L2.CX P w) (k + 1) f fd ps (DSp K mg (runD N.length ps.length body)) := by
  refine F.okX S (fun vs H Q E h => dsp_len h) fun cdv A outer s H vs Q E hr h => ?_
  obtain ⟨fa, Fz, fs, ds, h1, h2, r, g⟩ := h
  obtain ⟨t, p, kk⟩ := hbody cdv A outer s H E fa hr
  refine ⟨t, p, ?_⟩
  unfold runD at g
  by_cases e : ds.length = ps.length
  · rw [if_pos e] at g
    have S0 := SOk.start (N := N) h1 h2 r (by omega)
    rw [e] at S0
    refine kk Fz Fz H Fz H _ _ _ fs _ S0 ?_
    change GoodK K mg fa E Fz H ((body (ds.map EV.d ++ List.replicate (N.length - ps.length) .no) fs).bnd _) Q at g
    generalize body (ds.map EV.d ++ List.replicate (N.length - ps.length) .no) fs = rr at g
    cases rr with
    | bad => exact g
    | err e s' => exact g
    | ok q s' =>
      obtain ⟨fl, ρ'⟩ := q
      cases fl with
      | nx => exact fun σ' F' H' A' S' => g .non F' H' S'.ext S'.fd .non
      | rt d => exact fun v F' H' ex fo rv _ => g v F' H' ex fo rv
      | bk => exact g.elim
      | ct => exact g.elim
  · rw [if_neg e] at g
    exact g.elim

end
end DL

set_option Elab.async false
set_option linter.all false
set_option maxRecDepth 100000
set_option maxHeartbeats 2000000
/-! The data layer: a def that changes the feed in place. -/
namespace DL
open PySem PySem.Spec PyProof.Rows L2

def feedL (s : FS) : List D := [.lst (s.cells.map D.int), .int s.at_, .int s.rest, .int s.cnt, .int s.stir]
def fs0 : FS := ⟨[], 0, 0, 0, 0⟩
/-- the feed's list, the other slots (ints or nothing) -/
structure DS where
  L : List D
  ρ : List (Option Int)
def DS.env (d : DS) : Env' := some (.lst d.L) :: d.ρ.map fun o => o.map D.int
/-- the state of such a def: the feed at p -/
structure DJ (X : Cx) (p c0 : Addr) (F0 H0 H : Hp) (σ : L2.St) (d : DS) : Prop where
  le : Same F0 H
  hh : ∀ b o, H0 b = some o → b ≠ p → H b = some o
  al : ∀ b, H0 b ≠ none → H b ≠ none
  f0 : F0 p = none
  at_ : ∃ vs, H p = some (.lst vs) ∧ RepL X.K none F0 d.L vs ∧ vs[0]? = some (.ref c0)
  s0 : σ[0]? = some (some (.ref p))
  sl : ∀ (i : Nat) (k : Int), d.ρ[i]? = some (some k) → σ[i + 1]? = some (some (.int k))
  len : σ.length = d.ρ.length + 1
section
variable {X : Cx} {p c0 : Addr} {F0 H0 H : Hp} {σ : L2.St} {d : DS} {E : XK}
theorem DJ.envOk (J : DJ X p c0 F0 H0 H σ d) {vs : List V} (h : H p = some (.lst vs)) (r : RepL X.K none F0 d.L vs) : Same (upd F0 p (.lst vs)) H ∧ EnvOk X.K none (upd F0 p (.lst vs)) σ d.env := by
  have ff : Same F0 (upd F0 p (.lst vs)) := fun b o e => by rw [upd_ne (ne_of_none e J.f0)]; exact e
  refine ⟨fun b o e => ?_, by unfold DS.env; simp [J.len], fun i x hx => ?_⟩
  · by_cases hb : b = p
    · subst hb; rw [upd_same] at e; rw [h]; exact e
    · rw [upd_ne hb] at e; exact J.le b o e
  · unfold DS.env at hx
    match i, hx with
    | 0, hx =>
      cases hx
      exact ⟨_, J.s0, .lst upd_same (r.mono ff)⟩
    | i + 1, hx =>
      rw [List.getElem?_cons_succ, List.getElem?_map] at hx
      cases q : d.ρ[i]? with
      | none => rw [q] at hx; cases hx
      | some o =>
        rw [q] at hx
        cases o with
        | none => cases hx
        | some k =>
          cases hx
          exact ⟨_, J.sl i k q, .int k⟩
/-- an expression whose value is an int -/
theorem dj_eval {t : TE} {f : Env' → M D} (k : TOk X none Wno t f) (J : DJ X p c0 F0 H0 H σ d) {n : Int} {Q : VK} (hf : f d.env fs0 = .ok (.int n) fs0) (q : ∀ H', DJ X p c0 F0 H0 H' σ d → Q (.int n) H') : t σ H Q := by
  obtain ⟨vs, h, r, rc⟩ := J.at_
  obtain ⟨le, en⟩ := J.envOk h r
  refine k σ (upd F0 p (.lst vs)) H d.env fs0 Q le (fun φ e => nomatch e) en ?_
  rw [hf]
  intro v F' H' e fo rv
  cases rv
  have hp : F' p = some (.lst vs) := e.ff _ _ upd_same
  refine q H' ⟨fun b o z => e.fh _ _ (e.ff b o ?_), fun b o z hb => e.hh b o (J.hh b o z hb) fun φ z => (nomatch z), fun b z => e.al b (J.al b z), J.f0, ⟨vs, e.fh _ _ hp, r, rc⟩, J.s0, J.sl, J.len⟩
  rw [upd_ne (ne_of_none z J.f0)]
  exact z
theorem dj_test {t : TT} {f : Env' → M Bool} (k : TTOk X none Wno t f) (J : DJ X p c0 F0 H0 H σ d) {n : Bool} {Q : Bool → Hp → Prop} (hf : f d.env fs0 = .ok n fs0) (q : ∀ H', DJ X p c0 F0 H0 H' σ d → Q n H') : t σ H Q := by
  obtain ⟨vs, h, r, rc⟩ := J.at_
  obtain ⟨le, en⟩ := J.envOk h r
  refine k σ (upd F0 p (.lst vs)) H d.env fs0 Q le (fun φ e => nomatch e) en ?_
  rw [hf]
  intro F' H' e fo
  have hp : F' p = some (.lst vs) := e.ff _ _ upd_same
  refine q H' ⟨fun b o z => e.fh _ _ (e.ff b o ?_), fun b o z hb => e.hh b o (J.hh b o z hb) fun φ z => (nomatch z), fun b z => e.al b (J.al b z), J.f0, ⟨vs, e.fh _ _ hp, r, rc⟩, J.s0, J.sl, J.len⟩
  rw [upd_ne (ne_of_none z J.f0)]
  exact z
/-- a statement: what it makes of the state; a number is handed back -/
def SIK (X : Cx) (t : TS) (g : DS → Option (Option Int × DS)) : Prop :=
  ∀ (p c0 : Addr) (F0 H0 H : Hp) (σ : L2.St) (d : DS) (Dn : Ends), DJ X p c0 F0 H0 H σ d → (match g d with
    | none => False
    | some (none, d') => ∀ σ' H', DJ X p c0 F0 H0 H' σ' d' → Dn.nx σ' H'
    | some (some k, d') => ∀ σ' H', DJ X p c0 F0 H0 H' σ' d' → Dn.rt (.int k) H') → t Dn σ H
def SI (X : Cx) (st : Stmt) (g : DS → Option (Option Int × DS)) : Prop := ∃ t, PS X st t ∧ SIK X t g
def SIs (X : Cx) (st : List Stmt) (g : DS → Option (Option Int × DS)) : Prop := ∃ t, PSs X st t ∧ SIK X t g
/-- the number that an expression gives -/
def numOf (f : Env' → M D) (d : DS) : Option Int := match f d.env fs0 with
  | .ok (.int n) ⟨[], 0, 0, 0, 0⟩ => some n
  | _ => none
def boolOf (f : Env' → M Bool) (d : DS) : Option Bool := match f d.env fs0 with
  | .ok n ⟨[], 0, 0, 0, 0⟩ => some n
  | _ => none
theorem numOf_eq {f : Env' → M D} {n : Int} (h : numOf f d = some n) : f d.env fs0 = .ok (.int n) fs0 := by
  unfold numOf at h
  split at h
  · rename_i q
    cases h
    exact q
  · cases h
theorem boolOf_eq {f : Env' → M Bool} {n : Bool} (h : boolOf f d = some n) : f d.env fs0 = .ok n fs0 := by
  unfold boolOf at h
  split at h
  · rename_i q
    cases h
    exact q
  · cases h
def hNext : DS → Option (Option Int × DS) := fun d => some (none, d)
def hSeq (g g' : DS → Option (Option Int × DS)) : DS → Option (Option Int × DS) := fun d => (g d).bind fun q => match q.1 with
  | none => g' q.2
  | some k => some (some k, q.2)
def hSet (i : Nat) (f : Env' → M D) : DS → Option (Option Int × DS) := fun d => (numOf f d).map fun n => (none, ⟨d.L, d.ρ.set i (some n)⟩)
def hStore (f : Env' → M D) (k : Int) : DS → Option (Option Int × DS) := fun d => (numOf f d).bind fun n => (ixN d.L.length k).map fun j => (none, ⟨d.L.set j (.int n), d.ρ⟩)
def hIf (c : Env' → M Bool) (g g' : DS → Option (Option Int × DS)) : DS → Option (Option Int × DS) := fun d => (boolOf c d).bind fun k => if k = true then g d else g' d
def hRet (f : Env' → M D) : DS → Option (Option Int × DS) := fun d => (numOf f d).map fun n => (some n, d)
variable {e c : Expr} {f : Env' → M D} {g g' : DS → Option (Option Int × DS)} {st : Stmt} {sts sts' : List Stmt} {pos : Pos}
theorem sis_nil : SIs X [] hNext := ⟨_, pss_nil, fun p c0 F0 H0 H σ d Dn J h => h σ H J⟩
theorem sis_one (h : SI X st g) : SIs X [st] g := by
  obtain ⟨t, q, k⟩ := h
  exact ⟨_, pss_one q, k⟩
theorem sis_cons (h1 : SI X st g) (h2 : SIs X sts g') : SIs X (st :: sts) (hSeq g g') := by
  obtain ⟨t, q, k⟩ := h1
  obtain ⟨t', q', k'⟩ := h2
  refine ⟨_, pss_cons q q', fun p c0 F0 H0 H σ d Dn J h => ?_⟩
  refine k p c0 F0 H0 H σ d _ J ?_
  unfold hSeq at h
  cases r : g d with
  | none => rw [r] at h; exact h
  | some z =>
    rw [r] at h
    obtain ⟨o, d'⟩ := z
    cases o with
    | none => exact fun σ' H' J' => k' p c0 F0 H0 H' σ' d' Dn J' h
    | some n => exact h
theorem si_set {i : Nat} {x : Str} {pos' : Pos} (hN : X.N.Nodup) (he : ED X none Wno e f) (hi : X.N[i + 1]? = some x := by rfl) (hx : Loc X.env.scope x := by first | exact .inl rfl | exact .inr rfl) (hs : swapsWith e (some (.Name x pos')) pos.line X.env = pure false := by rfl)
    (hf : X.fn x = true ∨ X.env.scope.names.lookup x = some .local := by first | exact .inl rfl | exact .inr rfl | assumption) : SI X (.Assign [.Name x pos'] e pos) (hSet i f) := by
  obtain ⟨t, q, k⟩ := he
  refine ⟨_, ps_set hN hi hx q hs hf, fun p c0 F0 H0 H σ d Dn J h => ?_⟩
  unfold hSet at h
  cases r : numOf f d with
  | none => rw [r] at h; exact h.elim
  | some n =>
    rw [r] at h
    refine dj_eval k J (numOf_eq r) fun H' J' => h _ H' ⟨J'.le, J'.hh, J'.al, J'.f0, J'.at_, ?_, fun j m hj => ?_, by simp [J'.len]⟩
    · rw [List.getElem?_set_ne (by omega)]; exact J'.s0
    · by_cases hji : i = j
      · subst hji
        have hl : i < d.ρ.length := by
          have := (List.getElem?_eq_some_iff.mp hj).1
          simpa using this
        rw [List.getElem?_set_self hl] at hj
        cases hj
        rw [List.getElem?_set_self (by rw [J'.len]; omega)]
      · rw [List.getElem?_set_ne hji] at hj
        rw [List.getElem?_set_ne (by omega)]
        exact J'.sl j m hj
theorem ix_pos {j : Int} {n m : Nat} (hj : 0 < j) (h : ixN n j = some m) : m ≠ 0 := by
  unfold ixN at h
  rw [if_pos (by omega)] at h
  split at h
  · cases h; omega
  · cases h
theorem si_store {x : Str} {j : Int} {jj : Nat} {jp px pos' : Pos} (he : ED X none Wno e f) (ho : PE X (.Name x px) (tVar 0)) (hj : 0 < j := by decide) (hs : swapsWithSole [.Subscript (.Name x px) (.Constant (.int j) jj jp) pos'] e pos.line X.env = pure false := by rfl) (hw : swappedStores [.Subscript (.Name x px) (.Constant (.int j) jj jp) pos'] e X.env = pure none := by rfl)
    (h1 : (assignEach [.Subscript (.Name x px) (.Constant (.int j) jj jp) pos'] X.env).map (·.2) = [assign (.Subscript (.Name x px) (.Constant (.int j) jj jp) pos') X.env] := by rfl)
    (ha : ∀ v, assign (.Subscript (.Name x px) (.Constant (.int j) jj jp) pos') X.env v = (do
      let ov ← holding [v] (eval (.Name x px) X.env)
      let iv ← holding [v, ov] (eval (.Constant (.int j) jj jp) X.env)
      standAt pos'
      holding [v, ov, iv] (setItem ov iv v)
      release [v, ov, iv] []) := by intro _; rfl) : SI X (.Assign [.Subscript (.Name x px) (.Constant (.int j) jj jp) pos'] e pos) (hStore f j) := by
  obtain ⟨t, q, k⟩ := he
  refine ⟨_, ps_asg q (pg_sub ho pe_int set_list ha) hs hw h1, fun p c0 F0 H0 H σ d Dn J h => ?_⟩
  unfold hStore at h
  cases r : numOf f d with
  | none => rw [r] at h; exact h.elim
  | some n =>
    rw [r] at h
    change (match (ixN d.L.length j).map fun j => (none, (⟨d.L.set j (.int n), d.ρ⟩ : DS)) with
    | none => False
    | some (none, d') => ∀ σ' H', DJ X p c0 F0 H0 H' σ' d' → Dn.nx σ' H'
    | some (some k, d') => ∀ σ' H', DJ X p c0 F0 H0 H' σ' d' → Dn.rt (.int k) H') at h
    cases r2 : ixN d.L.length j with
    | none => rw [r2] at h; exact h.elim
    | some m =>
      rw [r2] at h
      refine dj_eval k J (numOf_eq r) fun H' J' => ?_
      obtain ⟨vs, hv, rl, rc⟩ := J'.at_
      refine ⟨_, J'.s0, p, vs, j, m, rfl, rfl, hv, by rw [← rl.length]; exact r2, ?_⟩
      refine h σ _ ⟨fun b o z => ?_, fun b o z hb => ?_, fun b z => ?_, J'.f0, ⟨_, upd_same, RepL.setI m (.int n) rl, by rw [List.getElem?_set_ne (ix_pos hj r2)]; exact rc⟩, J'.s0, J'.sl, J'.len⟩
      · rw [upd_ne (ne_of_none z J'.f0)]; exact J'.le b o z
      · rw [upd_ne hb]; exact J'.hh b o z hb
      · by_cases hb : b = p
        · subst hb; rw [upd_same]; simp
        · rw [upd_ne hb]; exact J'.al b z
theorem si_if {cc : Env' → M Bool} (hc : TD X none Wno c cc) (h1 : SIs X sts g) (h2 : SIs X sts' g') : SI X (.If c sts sts' pos) (hIf cc g g') := by
  obtain ⟨tc, qc, kc⟩ := hc
  obtain ⟨t, q, k⟩ := h1
  obtain ⟨t', q', k'⟩ := h2
  refine ⟨_, ps_if qc q q', fun p c0 F0 H0 H σ d Dn J h => ?_⟩
  unfold hIf at h
  cases r : boolOf cc d with
  | none => rw [r] at h; exact h.elim
  | some n =>
    rw [r] at h
    refine dj_test kc J (boolOf_eq r) fun H' J' => ?_
    cases n with
    | true => exact iteT (k p c0 F0 H0 H' σ d Dn J' h)
    | false => exact iteF (k' p c0 F0 H0 H' σ d Dn J' h)
theorem si_ret (he : ED X none Wno e f) : SI X (.Return (some e) pos) (hRet f) := by
  obtain ⟨t, q, k⟩ := he
  refine ⟨_, ps_ret q, fun p c0 F0 H0 H σ d Dn J h => ?_⟩
  unfold hRet at h
  cases r : numOf f d with
  | none => rw [r] at h; exact h.elim
  | some n =>
    rw [r] at h
    exact dj_eval k J (numOf_eq r) fun H' J' => h σ H' J'
end

/-! ### the promise -/
def feedFn (g : Int → M Int) : List D → M D
  | [.feed, .int i] => fun s => match g i s with
    | .ok k s' => .ok (.int k) s'
    | _ => .bad
  | _ => M.bad
theorem feedFn_shape (g : Int → M Int) (ds : List D) (fs : FS) : feedFn g ds fs = .bad ∨ ∃ i k s', ds = [.feed, .int i] ∧ g i fs = .ok k s' ∧ feedFn g ds fs = .ok (.int k) s' := by
  unfold feedFn
  split
  · rename_i i
    cases q : g i fs with
    | bad => exact .inl rfl
    | err e s => exact .inl rfl
    | ok k s' => exact .inr ⟨i, k, s', rfl, q, rfl⟩
  · exact .inl rfl
theorem fn_feed {P : Program} {w : World} {K : PySem.W.Frag} {mg : Str → Option Value} {base : Heap} {x qual : Str} {st : Stmt} {f : Addr} {fd : FuncData} {N ps : List Str} {k : Nat} {body : DS → Option (Option Int × DS)} {g : Int → M Int} (F : Fun K x qual st f fd) (S : FnScope N ps (defScope st)) (hN : ps.length = 2) (n : Nat) (hN2 : N.length = n + 2)
    (hg : ∀ (i : Int) (s s' : FS) (k : Int), s.Ok → g i s = .ok k s' → s'.Ok ∧ s'.cells = s.cells ∧ ∃ ρ', body ⟨feedL s, some i :: List.replicate n none⟩ = some (some k, ⟨feedL s', ρ'⟩))
    (hbody : ∀ (cdv : Value) (A : Around) (outer : List Env) (s : Shared) (H : Hp) (E : XK), Room k (A.deeper (envOfC qual (defScope st) s.heap.objs.size f cdv)) →
      SIs (cxOf (L2.CX P w) P w K mg base N qual (defScope st) f cdv A outer s H E) (defBody st) body) :
    FnOk P w K mg base (L2.CX P w) (k + 1) f fd ps (DSp K mg (feedFn g)) := by
  refine F.okX S (fun vs H Q E h => ?_) fun cdv A outer s H vs Q E hr h => ?_
  · obtain ⟨fa, Fz, fs, ds, h1, h2, r, gd⟩ := h
    rcases feedFn_shape g ds fs with q | ⟨i, z, s', rfl, q1, q2⟩
    · rw [q] at gd; exact gd.elim
    · rw [hN, ← r.length]; rfl
  · obtain ⟨fa, Fz, fs, ds, h1, h2, r, gd⟩ := h
    rcases feedFn_shape g ds fs with q | ⟨i, z, s', rfl, q1, q2⟩
    · rw [q] at gd; exact gd.elim
    · rw [q2] at gd
      obtain ⟨t, p, kk⟩ := hbody cdv A outer s H E hr
      refine ⟨t, p, ?_⟩
      cases r with
      | cons r0 r =>
        cases r with
        | cons r1 r =>
          cases r
          cases r1
          cases r0 with
          | feed φ hφ =>
            obtain ⟨f1, ⟨f2, f2'⟩, ⟨f3, ft⟩, f4⟩ := h2 φ hφ
            obtain ⟨ok', ce, ρ', hb⟩ := hg i fs s' z f2' q1
            refine kk φ.a φ.c Fz H H _ ⟨feedL fs, some i :: List.replicate n none⟩ _ ⟨h1, fun b o e _ => e, fun b e => e, f1, ⟨_, f3, .cons (.lst f4 ?_) (.cons (.int _) (.cons (.int _) (.cons (.int _) (.cons (.int _) .nil)))), rfl⟩, rfl, fun j m hj => ?_, ?_⟩ ?_
            · rw [f2]
              exact RepL.ints _
            · match j, hj with
              | 0, hj => cases hj; rfl
              | j + 1, hj =>
                simp only [List.getElem?_cons_succ] at hj
                rw [List.getElem?_replicate] at hj
                split at hj <;> cases hj
            · unfold L2.start
              simp [hN2]
            · rw [hb]
              rintro σ' H' J
              obtain ⟨us, g4, g5, g6⟩ := J.at_
              have ex : Ext fa Fz H Fz H' := ⟨Same.refl _, J.le, fun b o e nb => J.hh b o e fun z => (nb φ hφ).1 z.symm, fun _ _ => rfl, J.al⟩
              refine gd (.int z) Fz H' ex (fun φ' e => ?_) (.int z)
              have : φ' = φ := by rw [hφ] at e; cases e; rfl
              subst this
              refine ⟨f1, ⟨by rw [ce]; exact f2, ok'⟩, ⟨?_, ft.butOne f3 (noTab_lst _) J.hh⟩, f4⟩
              rw [g4]
              -- the feed's items
              cases g5 with
              | cons a1 g5 =>
                cases g5 with
                | cons a2 g5 =>
                  cases g5 with
                  | cons a3 g5 =>
                    cases g5 with
                    | cons a4 g5 =>
                      cases g5 with
                      | cons a5 g5 =>
                        cases g5
                        cases a2
                        cases a3
                        cases a4
                        cases a5
                        cases g6
                        rfl
end DL

set_option Elab.async false
set_option linter.all false
set_option maxRecDepth 100000
set_option maxHeartbeats 2000000
/-! The data layer: repr, calls of defs, a law. -/
namespace DL
open PySem PySem.Spec PyProof.Rows L2

section
variable {X : Cx} {fa : Option FA} {W : L2.St → XK} {Wc : XK} {a b c e o : Expr} {es rest : List Expr} {pos p apos cpos : Pos} {f1 f2 f3 : Env' → M D} {fl : Env' → M (List D)} {st : Stmt} {sts : List Stmt}
/-! ### what is not reached -/
def gBad : Sts → M (Fl × Sts) := fun _ => M.bad
def dBad : Env' → M D := fun _ => M.bad
theorem sj_never : SJ X fa Wc st gBad := ⟨_, ps_never, fun B F0 H0 F H A σ ρ s Dn S h => h.elim⟩
theorem ssj_never : SSJ X fa Wc sts gBad := ⟨_, pss_never, fun B F0 H0 F H A σ ρ s Dn S h => h.elim⟩
theorem ed_never : ED X fa W e dBad := ⟨fun _ _ _ => False, ⟨fun pins s σ H Q I h => h.elim⟩, fun σ F H ρ s Q h1 h2 h3 h => h⟩

/-! ### repr -/
def reprD : List D → Option D
  | [.int i] => if i.natAbs.log2 < 1920 then some (.str (toString i)) else none
  | [.str x] => if (reprText x).length ≤ sizeLine then some (.str (reprText x)) else none
  | [.bl b] => some (.str (if b then "True" else "False"))
  | [.non] => some (.str "None")
  | _ => none
def rRepr : List V → Hp → VK → Prop := fun xs H Q => (∃ i : Int, xs = [.int i] ∧ i.natAbs.log2 < 1920 ∧ Q (.str (toString i)) H) ∨ (∃ x, xs = [.str x] ∧ (reprText x).length ≤ sizeLine ∧ Q (.str (reprText x)) H) ∨ (∃ b : Bool, xs = [.bl b] ∧ Q (.str (if b then "True" else "False")) H) ∨ (xs = [.non] ∧ Q (.str "None") H)
theorem cr_repr : CallR X (.builtin "repr") rRepr := by
  intro pins s σ H xs us Q I r h
  rcases h with ⟨i, rfl, hz, q⟩ | ⟨x, rfl, hz, q⟩ | ⟨k, rfl, q⟩ | ⟨rfl, q⟩
  · cases r with
    | cons r rr =>
      cases rr
      obtain ⟨t, rfl⟩ := r
      exact PySem.P.repr_of_int hz ⟨.str _, H, I.tok _, ⟨_, rfl⟩, q⟩
  · cases r with
    | cons r rr =>
      cases rr
      obtain ⟨t, rfl⟩ := r
      exact PySem.P.repr_of_str ⟨.str _, H, I.tok _, ⟨_, rfl⟩, q⟩ hz
  · cases r with
    | cons r rr =>
      cases rr
      cases r
      exact PySem.P.repr_of_bool ⟨.str _, H, I.tok _, ⟨_, rfl⟩, q⟩
  · cases r with
    | cons r rr =>
      cases rr
      cases r
      exact PySem.P.repr_of_none ⟨.str _, H, I.tok _, ⟨_, rfl⟩, q⟩
theorem ok_repr : CallOk X fa rRepr reprD := by
  intro F H s xs as Q h1 h2 r h
  cases r with
  | nil => exact h.elim
  | cons r t =>
    cases t with
    | cons _ _ => cases r <;> exact h.elim
    | nil =>
      cases r with
      | int i =>
        by_cases hl : i.natAbs.log2 < 1920
        · rw [show reprD [.int i] = some (.str (toString i)) from if_pos hl] at h
          exact .inl ⟨i, rfl, hl, GoodO.here h1 h2 (.str _) h⟩
        · rw [show reprD [.int i] = none from if_neg hl] at h
          exact h.elim
      | str x =>
        by_cases hl : (reprText x).length ≤ sizeLine
        · rw [show reprD [.str x] = some (.str (reprText x)) from if_pos hl] at h
          exact .inr (.inl ⟨x, rfl, hl, GoodO.here h1 h2 (.str _) h⟩)
        · rw [show reprD [.str x] = none from if_neg hl] at h
          exact h.elim
      | bl k => exact .inr (.inr (.inl ⟨k, rfl, GoodO.here h1 h2 (.str _) h⟩))
      | non => exact .inr (.inr (.inr ⟨rfl, GoodO.here h1 h2 (.str _) h⟩))
      | _ => exact h.elim
end

/-! ### calls of defs -/
/-- the module's name x is a def at level k that computes g -/
structure Cal (P : Program) (w : World) (K : PySem.W.Frag) (mg : Str → Option Value) (base : Heap) (k : Nat) (x : Str) (ps : List Str) (g : List D → M D) : Prop where
  ex : ∃ f fd, FnOk P w K mg base (L2.CX P w) k f fd ps (DSp K mg g) ∧ mg x = some (.ref f) ∧ PySem.W.keepIn K (.ref f) = true ∧ Binds K fd ps []
/-- a def of the text stands there -/
structure Dff (K : PySem.W.Frag) (mg : Str → Option Value) (x : Str) (ps : List Str) (st : Stmt) : Prop where
  ex : ∃ f fd, Fun K x x st f fd ∧ mg x = some (.ref f) ∧ Binds K fd ps []
section
variable {X : Cx} {fa : Option FA} {W : L2.St → XK} {e : Expr} {es : List Expr} {pos p : Pos} {fl : Env' → M (List D)}
theorem ed_cal {k : Nat} {ps : List Str} {g : List D → M D} {x : Str} (C : Cal X.prog X.w X.K X.mg X.base k x ps g) (hr : Room k X.A) (hx : ∀ σ, PassesAt (L2.CX X.prog X.w) X σ (W σ)) (ha : LD X fa W (e :: es) fl) (hg : Gl X x := by rfl) (hdb : (x == ("__debug__" : Str)) = false := by decide)
    (he : starEach (e :: es) X.env = (false, eval e X.env) :: starEach es X.env := by rfl) (hpl : (backTo pos (starEach es X.env)).any (·.1) = false := by rfl) : ED X fa W (.Call (.Name x p) (e :: es) [] pos) (dCall g fl) := by
  obtain ⟨f, fd, F, hm, hk, hb⟩ := C.ex
  exact ed_call F hr hm hk hb hx ha hg hdb he hpl
variable {P : Program} {w : World} {K : PySem.W.Frag} {mg : Str → Option Value} {base : Heap}
/-- no argument -/
theorem ed_cal0 {k : Nat} {g : List D → M D} {x : Str} (C : Cal X.prog X.w X.K X.mg X.base k x [] g) (hr : Room k X.A) (hx : Passes (L2.CX X.prog X.w) X (fun _ _ _ => False)) (hg : Gl X x := by rfl) (hdb : (x == ("__debug__" : Str)) = false := by decide) : ED X fa W (.Call (.Name x p) [] [] pos) (fun _ => M.quiet (g [])) := by
  obtain ⟨f, fd, F, hm, hk, hb⟩ := C.ex
  refine ⟨_, pe_call0 F hr hg hm hk hb .nil hx hdb, fun σ F H ρ s Q h1 h2 h3 h => ?_⟩
  unfold M.quiet at h
  dsimp only at h
  refine ⟨fa, F, s, [], h1, h2, .nil, ?_⟩
  cases q : g [] s with
  | bad => rw [q] at h; exact h
  | err e s' => rw [q] at h; exact h.elim
  | ok d s' => rw [q] at h; exact h
theorem cal_of {x : Str} {ps : List Str} {st : Stmt} {k : Nat} {g : List D → M D} (D0 : Dff K mg x ps st) (h : ∀ f fd, Fun K x x st f fd → FnOk P w K mg base (L2.CX P w) k f fd ps (DSp K mg g)) : Cal P w K mg base k x ps g := by
  obtain ⟨f, fd, F, hm, hb⟩ := D0.ex
  exact ⟨f, fd, h f fd F, hm, F.kp, hb⟩
theorem Cal.mono {x : Str} {ps : List Str} {j k : Nat} {g : List D → M D} (C : Cal P w K mg base j x ps g) (h : j ≤ k) : Cal P w K mg base k x ps g := by
  obtain ⟨f, fd, F, hm, hk, hb⟩ := C.ex
  exact ⟨f, fd, F.mono h, hm, hk, hb⟩
/-- nothing is promised -/
theorem cal_bad {x : Str} {ps : List Str} {st : Stmt} (D0 : Dff K mg x ps st) (k : Nat) : Cal P w K mg base k x ps (fun _ => M.bad) := by
  obtain ⟨f, fd, F, hm, hb⟩ := D0.ex
  refine ⟨f, fd, ⟨fun vs H Q E h => ?_, fun A outer s H args us vs Q E _ _ _ _ h => ?_⟩, hm, F.kp, hb⟩
  · obtain ⟨_, _, _, _, _, _, _, g⟩ := h
    exact g.elim
  · obtain ⟨_, _, _, _, _, _, _, g⟩ := h
    exact g.elim
theorem dff_mk {x : Str} {ps : List Str} {st : Stmt} {f : Addr} {oc : Value} {od an : Option Addr} {osl : Array (Option Value)} {kV doc pm cdv ct : Value} {h : Heap} (X : K.In h) (G : h.Ns mainGlobals mg)
    (a : PySem.W.nsIn K mainGlobals x = some (some (.ref f))) (l : K.lookup f = some ⟨oc, od, .func (PySem.W.fnOf x x (defArgs st) (defBody st) (defScope st) .none kV doc pm an cdv ct), osl⟩) (c : PySem.W.codeIn K cdv x = true) (kp : PySem.W.keepIn K (.ref f) = true)
    (hb : ∀ (kV doc pm : Value) (an : Option Addr) (cdv ct : Value) (us : List Value), us.length = ps.length → bindArgs (PySem.W.fnOf x x (defArgs st) (defBody st) (defScope st) .none kV doc pm an cdv ct) ⟨us, []⟩ = pure (ps.zip us)) : Dff K mg x ps st := by
  have F := fun_mk (st := st) l c kp
  exact ⟨f, _, F, PySem.W.mg_of X G a, F.binds hb⟩

/-! ### the law -/
theorem fn_cx0 {x qual : Str} {st : Stmt} {f : Addr} {fd : FuncData} {ps : List Str} {k : Nat} {sp : Sp} (F : FnOk P w K mg base (L2.CX P w) k f fd ps sp) (hE : ∀ vs H Q E E', sp vs H Q E → sp vs H Q E') : FnOk P w K mg base CX0 k f fd ps sp := by
  refine ⟨F.len, fun A outer s H args us vs Q E hr e0 hb r h => ?_⟩
  refine codeAny_mono (F.run A outer s H args us vs Q (fun _ _ _ => False) hr e0 hb r (hE _ _ _ _ _ h)) fun r s' hq => ?_
  cases r with
  | ok fl => cases fl <;> exact hq
  | error e =>
    obtain ⟨_, _, _, _, _, _, _, _, _, _, _, _, z⟩ := hq
    exact z
def spLaw (K : PySem.W.Frag) : Sp := fun vs H Q _ => ∃ (a : Addr) (ns : List Int), vs = [.ref a] ∧ SqL K H a (ns.map V.int) ∧ ns.length ≤ 63 ∧ ∀ H', Q (.bl true) H'
/-- .. with the tables of code objects -/
def spLawT (K : PySem.W.Frag) (T : List (Addr × Str)) : Sp := fun vs H Q E => spLaw K vs H Q E ∧ LamX.Tabs T H
def stirOf (ns : List Int) : Int := ns.foldl (fun st c => (st * 40961 + c % 2147483029 + 77) % 2147483477) 10019
/-- the feed at its start -/
def fs1 (ns : List Int) : FS := ⟨ns, 0, 0, 0, stirOf ns⟩
theorem stir_ok (ns : List Int) : 0 ≤ stirOf ns ∧ stirOf ns < 2147483477 := by
  unfold stirOf
  have h : ∀ (l : List Int) (a : Int), (0 ≤ a ∧ a < 2147483477) → 0 ≤ l.foldl (fun st c => (st * 40961 + c % 2147483029 + 77) % 2147483477) a ∧ l.foldl (fun st c => (st * 40961 + c % 2147483029 + 77) % 2147483477) a < 2147483477 := by
    intro l
    induction l with
    | nil => exact fun a h => h
    | cons c r ih =>
      intro a h
      exact ih _ ⟨Int.emod_nonneg _ (by decide), Int.emod_lt_of_pos _ (by decide)⟩
  exact h ns _ (by decide)
theorem fn_lawT (T : List (Addr × Str)) {st st0 : Stmt} {sts : List Stmt} {f : Addr} {fd : FuncData} {N : List Str} {k n : Nat} {ff : List D → M D} {g : Sts → M (Fl × Sts)} (F : Fun K "law" "law" st f fd) (S : FnScope N ["_law_script"] (defScope st)) (hN : N.length = n + 2) (hst : defBody st = st0 :: sts)
    (h0 : ∀ (cdv : Value) (A : Around) (outer : List Env) (s : Shared) (H : Hp) (E : XK), Room k (A.deeper (envOfC "law" (defScope st) s.heap.objs.size f cdv)) →
      SJ (cxOf (L2.CX P w) P w K mg base N "law" (defScope st) f cdv A outer s H E) none E st0 (gSet 1 (vMask (dCall ff (lCons (dVar 0) lNil)))))
    (hff : ∀ ns s, ns.length ≤ 63 → ff [.scr ns] s = .ok (.lst (feedL (fs1 ns))) s)
    (hbody : ∀ (cdv : Value) (A : Around) (outer : List Env) (s : Shared) (H : Hp) (E : XK) (φ : FA), φ.tabs = T → Room k (A.deeper (envOfC "law" (defScope st) s.heap.objs.size f cdv)) →
      SSJ (cxOf (L2.CX P w) P w K mg base N "law" (defScope st) f cdv A outer s H E) (some φ) E sts g)
    (hg : ∀ ns : List Int, ns.length ≤ 63 → ∃ ρ' s', g (.no :: .d .feed :: List.replicate n .no) (fs1 ns) = .ok (.rt (.bl true), ρ') s') :
    FnOk P w K mg base CX0 (k + 1) f fd ["_law_script"] (spLawT K T) := by
  refine fn_cx0 (x := "law") (qual := "law") (st := st) ?_ fun vs H Q E E' h => h
  refine F.okX S (fun vs H Q E h => ?_) fun cdv A outer s H vs Q E hr h => ?_
  · obtain ⟨⟨a, ns, rfl, _⟩, _⟩ := h
    rfl
  · obtain ⟨⟨a, ns, rfl, hS, hl, q⟩, hT⟩ := h
    obtain ⟨t0, p0, k0⟩ := h0 cdv A outer s H E hr
    -- the whole heap is known
    have S0 := SOk.start (K := K) (fa := none) (F := H) (H := H) (s := fs1 ns) (N := N) (ds := [.scr ns]) (vs := [.ref a]) (Same.refl H) (fun φ e => nomatch e) (.cons (.scr hS) .nil) (by rw [hN]; simp)
    -- the rest's reading, for every feed
    have rest : ∀ (φ : {φ : FA // φ.tabs = T}), ∃ t, PSs (cxOf (L2.CX P w) P w K mg base N "law" (defScope st) f cdv A outer s H E) sts t ∧ SOkT (cxOf (L2.CX P w) P w K mg base N "law" (defScope st) f cdv A outer s H E) (some φ.1) E t g := fun φ => hbody cdv A outer s H E φ.1 φ.2 hr
    -- one reading for all
    let tt : TS := fun Dn σ H => ∃ φ, (Classical.choose (rest φ)) Dn σ H
    have ptt : PSs (cxOf (L2.CX P w) P w K mg base N "law" (defScope st) f cdv A outer s H E) sts tt := ⟨fun pins s σ H D I ⟨φ, h⟩ => (Classical.choose_spec (rest φ)).1.run pins s σ H D I h⟩
    refine ⟨tSeq t0 tt, by rw [hst]; exact pss_cons p0 ptt, ?_⟩
    refine k0 H H H H H _ _ _ _ _ S0 ?_
    have e0 : gSet 1 (vMask (dCall ff (lCons (dVar 0) lNil))) ([.d (.scr ns)] ++ List.replicate (N.length - 1) .no) (fs1 ns) = .ok (.nx, .d (.scr ns) :: .d (.lst (feedL (fs1 ns))) :: List.replicate n .no) (fs1 ns) := by
      have e1 : ([EV.d (.scr ns)] ++ List.replicate (N.length - 1) EV.no) = .d (.scr ns) :: .no :: List.replicate n .no := by
        rw [hN]
        rfl
      rw [e1]
      show ((vMask (dCall ff (lCons (dVar 0) lNil)) (.d (.scr ns) :: .no :: List.replicate n .no)).bind _) (fs1 ns) = _
      have e2 : vMask (dCall ff (lCons (dVar 0) lNil)) (.d (.scr ns) :: .no :: List.replicate n .no) (fs1 ns) = .ok (.d (.lst (feedL (fs1 ns))), .d (.scr ns) :: .no :: List.replicate n .no) (fs1 ns) := by
        show ((ff [.scr ns] (fs1 ns)).bnd _) = _
        rw [hff ns _ hl]
        rfl
      show ((vMask (dCall ff (lCons (dVar 0) lNil)) (.d (.scr ns) :: .no :: List.replicate n .no) (fs1 ns)).bnd _) = _
      rw [e2]
      rfl
    show GoodS _ none E H H H (gSet 1 (vMask (dCall ff (lCons (dVar 0) lNil))) ([.d (.scr ns)] ++ List.replicate (N.length - 1) .no) (fs1 ns)) _
    rw [e0]
    intro σ' F' H' A' S'
    have sl := S'.slot 1 _ rfl
    obtain ⟨v, hv, r⟩ := sl
    cases r with
    | @lst p xs vs hp rl =>
      unfold feedL at rl
      cases rl with
      | cons a1 g5 =>
        cases g5 with
        | cons a2 g5 =>
          cases g5 with
          | cons a3 g5 =>
            cases g5 with
            | cons a4 g5 =>
              cases g5 with
              | cons a5 g5 =>
                cases g5
                cases a2
                cases a3
                cases a4
                cases a5
                cases a1 with
                | @lst c _ us hc rc =>
                  obtain rfl := RepL.of_ints rc
                  have hpc : c ≠ p := fun z => by
                    subst z
                    rw [hc] at hp
                    have e : ns.map V.int = _ := HO.lst.inj (Option.some.inj hp)
                    cases ns with
                    | nil => cases e
                    | cons x r => cases e
                  have hT' : LamX.Tabs T H' := hT.ext fun b o e => S'.ext.fh _ _ (S'.ext.ff _ _ e)
                  have hcT : c ∉ T.map (·.1) := fun z => by
                    obtain ⟨q, hq, e⟩ := List.mem_map.mp z
                    obtain ⟨ps, h1, _⟩ := hT' q hq
                    have h2 := S'.ext.fh _ _ hc
                    rw [← e, h1] at h2
                    cases h2
                  refine ⟨⟨⟨p, c, ns, T⟩, rfl⟩, (Classical.choose_spec (rest ⟨⟨p, c, ns, T⟩, rfl⟩)).2 (fun b => if b = p ∨ b ∈ T.map (·.1) then none else F' b) (fun b => if b = p ∨ b ∈ T.map (·.1) then none else F' b) H' (fun b => if b = p ∨ b ∈ T.map (·.1) then none else F' b) H' (fun _ => 0) σ' (.no :: .d .feed :: List.replicate n .no) (fs1 ns) _ ⟨Ext.refl fun b o e => ?_, Same.refl _, fun φ e => ?_, ?_, fun i ev h => ?_, fun i j ev ev' h h' ho ho' => ?_⟩ ?_⟩
                  · by_cases hb : b = p ∨ b ∈ T.map (·.1)
                    · rw [if_pos hb] at e; cases e
                    · rw [if_neg hb] at e; exact S'.ext.fh b o e
                  · cases e
                    exact ⟨if_pos (.inl rfl), ⟨rfl, (stir_ok ns).1, (stir_ok ns).2, Int.le_refl _, Int.le_refl _⟩, ⟨S'.ext.fh _ _ hp, fun q hq => if_pos (.inr (List.mem_map.mpr ⟨q, hq, rfl⟩)), hT'⟩, by
                      show (if c = p ∨ c ∈ T.map (·.1) then none else F' c) = _
                      rw [if_neg (fun z => z.elim hpc hcT)]; exact hc⟩
                  · rw [S'.len]; rfl
                  · match i, h with
                    | 0, h => cases h; trivial
                    | 1, h => cases h; exact ⟨_, hv, .feed ⟨p, c, ns, T⟩ rfl⟩
                    | i + 2, h =>
                      simp only [List.getElem?_cons_succ] at h
                      rw [List.getElem?_replicate] at h
                      split at h
                      · cases h; trivial
                      · cases h
                  · have key : ∀ (m : Nat) u, (EV.no :: .d .feed :: List.replicate n EV.no)[m]? = some u → u.own = true → False := fun m u hm hu => by
                      match m, hm with
                      | 0, hm => cases hm; cases hu
                      | 1, hm => cases hm; cases hu
                      | m + 2, hm =>
                        simp only [List.getElem?_cons_succ] at hm
                        rw [List.getElem?_replicate] at hm
                        split at hm
                        · cases hm; cases hu
                        · cases hm
                    exact (key i ev h ho).elim
                  · obtain ⟨ρ', s', e⟩ := hg ns hl
                    rw [e]
                    intro v F2 H2 _ _ r2 _
                    cases r2
                    exact q H2
theorem fn_law {st st0 : Stmt} {sts : List Stmt} {f : Addr} {fd : FuncData} {N : List Str} {k n : Nat} {ff : List D → M D} {g : Sts → M (Fl × Sts)} (F : Fun K "law" "law" st f fd) (S : FnScope N ["_law_script"] (defScope st)) (hN : N.length = n + 2) (hst : defBody st = st0 :: sts)
    (h0 : ∀ (cdv : Value) (A : Around) (outer : List Env) (s : Shared) (H : Hp) (E : XK), Room k (A.deeper (envOfC "law" (defScope st) s.heap.objs.size f cdv)) →
      SJ (cxOf (L2.CX P w) P w K mg base N "law" (defScope st) f cdv A outer s H E) none E st0 (gSet 1 (vMask (dCall ff (lCons (dVar 0) lNil)))))
    (hff : ∀ ns s, ns.length ≤ 63 → ff [.scr ns] s = .ok (.lst (feedL (fs1 ns))) s)
    (hbody : ∀ (cdv : Value) (A : Around) (outer : List Env) (s : Shared) (H : Hp) (E : XK) (fa : Option FA), Room k (A.deeper (envOfC "law" (defScope st) s.heap.objs.size f cdv)) →
      SSJ (cxOf (L2.CX P w) P w K mg base N "law" (defScope st) f cdv A outer s H E) fa E sts g)
    (hg : ∀ ns : List Int, ns.length ≤ 63 → ∃ ρ' s', g (.no :: .d .feed :: List.replicate n .no) (fs1 ns) = .ok (.rt (.bl true), ρ') s') :
    FnOk P w K mg base CX0 (k + 1) f fd ["_law_script"] (spLaw K) := by
  have FT := fn_lawT [] F S hN hst h0 hff (fun cdv A outer s H E φ _ hr => hbody cdv A outer s H E (some φ) hr) hg
  exact ⟨fun vs H Q E h => FT.len vs H Q E ⟨h, fun q hq => absurd hq (by simp)⟩, fun A outer s H args us vs Q E hr e0 hb r h => FT.run A outer s H args us vs Q E hr e0 hb r ⟨h, fun q hq => absurd hq (by simp)⟩⟩
end
end DL

namespace DL
open PySem PySem.Spec PyProof.Rows L2
/-! ### a few more forms -/
def dNew (f : Env' → M (List D)) : Env' → M D := fun ρ => (f ρ).bind fun xs => M.pure (.lst xs)
def anyD' (x : D) : Option (List D) := match x with
  | .str z => some (z.cps.toList.map fun c => .str ⟨#[c]⟩)
  | x => seqD x
def iAny (f : Env' → M D) : Env' → M (List D) := fun ρ => (f ρ).bind fun x => M.lift (anyD' x)
section
variable {X : Cx} {fa : Option FA} {W : L2.St → XK} {Wc : XK} {tg a b c e o : Expr} {es rest : List Expr} {pos p apos cpos : Pos} {f1 f2 f3 : Env' → M D} {fl : Env' → M (List D)}
/-- a list, a tuple, a text -/
theorem ij_any (h : ED X fa W e f1) : IJ X fa W tg e (iAny f1) := by
  obtain ⟨wi, p1, k1⟩ := ij_seq (tg := tg) h
  obtain ⟨wi2, p2, k2⟩ := ij_text (tg := tg) h
  refine ⟨_, PI.or p1 p2, fun σ F H ρ s R h1 h2 h3 hg => ?_⟩
  change GoodI X fa (W σ) F H ((f1 ρ s).bnd _) R at hg
  cases q : f1 ρ s with
  | bad => rw [q] at hg; exact hg.elim
  | err x s' =>
    refine .inl (k1 σ F H ρ s R h1 h2 h3 ?_)
    show GoodI X fa (W σ) F H ((f1 ρ s).bnd _) R
    rw [q] at hg ⊢
    exact hg
  | ok x s' =>
    rw [q] at hg
    cases x with
    | str z =>
      refine .inr (k2 σ F H ρ s R h1 h2 h3 ?_)
      show GoodI X fa (W σ) F H ((f1 ρ s).bnd _) R
      rw [q]
      exact hg
    | _ =>
      refine .inl (k1 σ F H ρ s R h1 h2 h3 ?_)
      show GoodI X fa (W σ) F H ((f1 ρ s).bnd _) R
      rw [q]
      exact hg
def listN : List D → Option (List D)
  | [.lst xs] => some xs
  | [.tup xs] => some xs
  | _ => none
/-- list(x), new -/
theorem nd_list {x : Str} (hm : X.mg x = none) (ha : LD X fa W [e] fl) (hv : bootBuiltins x = some (.type "list") := by decide +kernel) (hg : Gl X x := by rfl) (hn : x ≠ "__name__" := by decide) (hdb : (x == ("__debug__" : Str)) = false := by decide) (he : starEach [e] X.env = (false, eval e X.env) :: starEach [] X.env := by rfl) (hpl : (backTo pos (starEach [] X.env)).any (·.1) = false := by rfl) :
    ND X fa W (.Call (.Name x p) [e] [] pos) (fun ρ => (fl ρ).bind fun xs => M.lift (listN xs)) := by
  obtain ⟨ta, pa, ka⟩ := ha
  refine ⟨_, pe_callTy call_list_of hg hm hv pa hn hdb he hpl, fun σ F H ρ s Q h1 h2 h3 h => ?_⟩
  refine ka.then GoodN.tgt h1 h2 h3 h fun xs s1 vs F1 H1 e1 o1 r1 v1 h' => ?_
  have part : ∀ (q : Addr) (us : List V) (ds : List D), (SqL X.K H1 q us ∨ SqT X.K H1 q us) → RepL X.K fa F1 ds us → vs = [.ref q] → GoodN X fa (W σ) F1 H1 (.ok ds s1) Q → ∃ p ys, vs = [.ref p] ∧ (SqL X.K H1 p ys ∨ SqT X.K H1 p ys) ∧ ∀ l, H1 l = none → Q (.ref l) (upd H1 l (.lst ys)) := fun q us ds hs rl hv hg => by
    refine ⟨q, us, hv, hs, fun l hl => ?_⟩
    have fl : F1 l = none := Same.free e1.fh hl
    refine hg l us F1 (upd H1 l (.lst us)) ⟨Same.refl _, fun b u z => ?_, fun b u z _ => ?_, fun _ _ => rfl, fun b z => ?_⟩ (o1.ext_same (Same.refl _) (fun b u z => by rw [upd_ne (ne_of_none z hl)]; exact z) fun _ _ => rfl) hl fl upd_same rl
    · rw [upd_ne (ne_of_none z fl)]; exact e1.fh b u z
    · rw [upd_ne (ne_of_none z hl)]; exact z
    · have : b ≠ l := fun q => z (q ▸ hl)
      rw [upd_ne this]; exact z
  cases r1 with
  | nil => exact h'.elim
  | cons r t =>
    cases t with
    | cons _ _ => cases r <;> exact h'.elim
    | nil =>
      cases r with
      | lst hq r => exact part _ _ _ (.inl (SqL.of (e1.fh _ _ hq))) r rfl h'
      | tup hq r => exact part _ _ _ (.inr (same_seqT e1.fh hq)) r rfl h'
      | _ => exact h'.elim
end
end DL

namespace DL
open PySem PySem.Spec PyProof.Rows L2
/-- a method of a value of one type -/
def dMtT (T : String) (g : D → List D → Option D) (f1 : Env' → M D) (fl : Env' → M (List D)) : Env' → M D := fun ρ => (f1 ρ).bind fun x => if tyD x = some T then (fl ρ).bind fun xs => M.lift (g x xs) else M.bad
theorem ht_index : ∀ d as, indexD d as ≠ none → tyD d = some "list" := by
  intro d as h
  cases d with
  | lst xs => rfl
  | _ => exact absurd rfl h
/-! ### the draw -/
def drawM (n : Int) : M Int := fun s =>
  if 0 < n ∧ n < 1073741824 then
    let s := { s with cnt := s.cnt + 1 }
    let s := if s.rest = 0 ∧ s.at_ < s.cells.length then
        match s.cells[s.at_.toNat]? with
        | some c => if 1000000000000000000 ≤ c then { s with at_ := s.at_ + 1, rest := c } else { s with at_ := s.at_ + 1, stir := (s.stir * 30203 + c % 2147483029 * 611 + 53) % 2147483477 }
        | none => s
      else s
    if 0 < s.rest then .ok (s.rest % n) { s with rest := s.rest / n }
    else
      let late := s.stir * s.stir + s.stir * 20011 + s.cnt * 1299721 + 40009
      let st := late % 2147483477
      .ok ((st / 97 + st % 6007 * 71) % n) { s with stir := st }
  else .bad
section
variable {g g' : DS → Option (Option Int × DS)} {d d' : DS} {k : Int} {c : Env' → M Bool}
theorem hSeq_nx (h : g d = some (none, d')) : hSeq g g' d = g' d' := by
  unfold hSeq; rw [h]; rfl
theorem hSeq_rt (h : g d = some (some k, d')) : hSeq g g' d = some (some k, d') := by
  unfold hSeq; rw [h]; rfl
theorem hIf_t (h : boolOf c d = some true) : hIf c g g' d = g d := by
  unfold hIf; rw [h]; rfl
theorem hIf_f (h : boolOf c d = some false) : hIf c g g' d = g' d := by
  unfold hIf; rw [h]; rfl
theorem hSet_eq {i : Nat} {f : Env' → M D} {n : Int} (h : numOf f d = some n) : hSet i f d = some (none, ⟨d.L, d.ρ.set i (some n)⟩) := by
  unfold hSet; rw [h]; rfl
theorem hStore_eq {f : Env' → M D} {n j : Int} {m : Nat} (h : numOf f d = some n) (hj : ixN d.L.length j = some m) : hStore f j d = some (none, ⟨d.L.set m (.int n), d.ρ⟩) := by
  unfold hStore; rw [h]; show (ixN d.L.length j).map _ = _; rw [hj]; rfl
theorem hRet_eq {f : Env' → M D} {n : Int} (h : numOf f d = some n) : hRet f d = some (some n, d) := by
  unfold hRet; rw [h]; rfl
end
end DL

set_option Elab.async false
set_option linter.all false
set_option maxRecDepth 100000
set_option maxHeartbeats 2000000
/-! The data layer: the draw. -/
namespace DL
open PySem PySem.Spec PyProof.Rows L2
def hD3 : DS → Option (Option Int × DS) :=
    (hSeq (hSet 3 (dOp ixD (dVar 0) (dC (.int 4))))
    (hSeq (hSet 3 (dOp addD (dOp addD (dOp addD (dOp mulD (dVar 4) (dVar 4)) (dOp mulD (dVar 4) (dC (.int 20011)))) (dOp mulD (dOp ixD (dVar 0) (dC (.int 3))) (dC (.int 1299721)))) (dC (.int 40009))))
    (hSeq (hStore (dOp modD (dFn intF (lCons (dVar 4) lNil)) (dC (.int 2147483477))) 4)
    (hRet (dOp modD (dFn intF (lCons (dOp addD (dOp fdivD (dOp ixD (dVar 0) (dC (.int 4))) (dC (.int 97))) (dOp mulD (dOp modD (dFn intF (lCons (dOp ixD (dVar 0) (dC (.int 4))) lNil)) (dC (.int 6007))) (dC (.int 71)))) lNil)) (dVar 1))))))
def hD2 : DS → Option (Option Int × DS) :=
    (hSeq (hIf (cCmp gtD (dOp ixD (dVar 0) (dC (.int 2))) (dC (.int 0))) (hSeq (hSet 2 (dOp modD (dFn intF (lCons (dOp ixD (dVar 0) (dC (.int 2))) lNil)) (dVar 1)))
    (hSeq (hStore (dOp fdivD (dOp ixD (dVar 0) (dC (.int 2))) (dVar 1)) 2)
    (hRet (dVar 3)))) hNext) hD3)
def hD1 : DS → Option (Option Int × DS) :=
    (hIf (cAnd (cCmp eqD (dOp ixD (dVar 0) (dC (.int 2))) (dC (.int 0))) (cCmp ltD (dOp ixD (dVar 0) (dC (.int 1))) (dFn lenD (lCons (dOp ixD (dVar 0) (dC (.int 0))) lNil)))) (hSeq (hSet 1 (dOp ixD (dOp ixD (dVar 0) (dC (.int 0))) (dOp ixD (dVar 0) (dC (.int 1)))))
    (hSeq (hStore (dOp addD (dOp ixD (dVar 0) (dC (.int 1))) (dC (.int 1))) 1)
    (hIf (cCmp geD (dVar 2) (dOp powD (dC (.int 10)) (dC (.int 18)))) (hStore (dVar 2) 2) (hStore (dOp modD (dFn intF (lCons (dOp addD (dOp addD (dOp mulD (dOp ixD (dVar 0) (dC (.int 4))) (dC (.int 30203))) (dOp mulD (dOp modD (dFn intF (lCons (dVar 2) lNil)) (dC (.int 2147483029))) (dC (.int 611)))) (dC (.int 53))) lNil)) (dC (.int 2147483477))) 4)))) hNext)
def hDraw : DS → Option (Option Int × DS) :=
  (hSeq (hStore (dOp addD (dOp ixD (dVar 0) (dC (.int 3))) (dC (.int 1))) 3) (hSeq hD1 hD2))
section
variable {d : DS} {f f1 f2 : Env' → M D} {a b r : Int} {g : D → D → Option D} {c1 c2 : Env' → M Bool} {k : Bool}
theorem num_op (h1 : numOf f1 d = some a) (h2 : numOf f2 d = some b) (hg : g (.int a) (.int b) = some (.int r)) : numOf (dOp g f1 f2) d = some r := by
  unfold numOf dOp
  show (match ((f1 d.env fs0).bnd _ : Res D) with | .ok (.int n) ⟨[], 0, 0, 0, 0⟩ => some n | _ => none) = _
  rw [numOf_eq h1]
  show (match ((f2 d.env fs0).bnd _ : Res D) with | .ok (.int n) ⟨[], 0, 0, 0, 0⟩ => some n | _ => none) = _
  rw [numOf_eq h2]
  show (match (M.lift (g (.int a) (.int b)) fs0 : Res D) with | .ok (.int n) ⟨[], 0, 0, 0, 0⟩ => some n | _ => none) = _
  rw [hg]
  rfl
theorem num_mod (h1 : numOf f1 d = some a) (h2 : numOf f2 d = some b) (h : 0 < b) : numOf (dOp modD f1 f2) d = some (a % b) := num_op h1 h2 (if_pos h)
theorem num_fdiv (h1 : numOf f1 d = some a) (h2 : numOf f2 d = some b) (h : 0 < b ∧ b < 1073741824) : numOf (dOp fdivD f1 f2) d = some (a / b) := num_op h1 h2 (if_pos h)
theorem num_mul (h1 : numOf f1 d = some a) (h2 : numOf f2 d = some b) (h : (-(2 ^ 64) < a ∧ a < 2 ^ 64) ∨ (-(2 ^ 64) < b ∧ b < 2 ^ 64)) : numOf (dOp mulD f1 f2) d = some (a * b) := num_op h1 h2 (if_pos h)
theorem num_add (h1 : numOf f1 d = some a) (h2 : numOf f2 d = some b) : numOf (dOp addD f1 f2) d = some (a + b) := num_op h1 h2 rfl
theorem num_int (h1 : numOf f d = some a) : numOf (dFn intF (lCons f lNil)) d = some a := by
  unfold numOf dFn
  show (match (((f d.env fs0).bnd _ : Res (List D)).bnd _ : Res D) with | .ok (.int n) ⟨[], 0, 0, 0, 0⟩ => some n | _ => none) = _
  rw [numOf_eq h1]
  rfl
theorem bool_cmp (h1 : numOf f1 d = some a) (h2 : numOf f2 d = some b) (hg : g (.int a) (.int b) = some (.bl k)) : boolOf (cCmp g f1 f2) d = some k := by
  unfold boolOf cCmp
  show (match ((f1 d.env fs0).bnd _ : Res Bool) with | .ok n ⟨[], 0, 0, 0, 0⟩ => some n | _ => none) = _
  rw [numOf_eq h1]
  show (match ((f2 d.env fs0).bnd _ : Res Bool) with | .ok n ⟨[], 0, 0, 0, 0⟩ => some n | _ => none) = _
  rw [numOf_eq h2]
  show (match (((M.lift (g (.int a) (.int b)) fs0).bnd _) : Res Bool) with | .ok n ⟨[], 0, 0, 0, 0⟩ => some n | _ => none) = _
  rw [hg]
  rfl
theorem bool_and (h1 : boolOf c1 d = some true) : boolOf (cAnd c1 c2) d = boolOf c2 d := by
  unfold cAnd
  show (match ((c1 d.env fs0).bnd _ : Res Bool) with | .ok n ⟨[], 0, 0, 0, 0⟩ => some n | _ => none) = _
  rw [boolOf_eq h1]
  rfl
theorem bool_and0 (h1 : boolOf c1 d = some false) : boolOf (cAnd c1 c2) d = some false := by
  unfold cAnd
  show (match ((c1 d.env fs0).bnd _ : Res Bool) with | .ok n ⟨[], 0, 0, 0, 0⟩ => some n | _ => none) = _
  rw [boolOf_eq h1]
  rfl
theorem eqD_int (a b : Int) : eqD (.int a) (.int b) = some (.bl (decide (a = b))) := by
  unfold eqD eqB
  show (if scal (.int a) (.int b) = true then some (decide ((V.int a) = .int b)) else _).map D.bl = _
  rw [if_pos (show scal (.int a) (.int b) = true from rfl)]
  show some (D.bl (decide (V.int a = V.int b))) = _
  congr 2
  by_cases h : a = b
  · subst h; simp
  · simp [h]
end
/-- what the tail of a draw gives -/
def drawT (n : Int) (s : FS) : Int × FS :=
  if 0 < s.rest then (s.rest % n, { s with rest := s.rest / n })
  else (((s.stir * s.stir + s.stir * 20011 + s.cnt * 1299721 + 40009) % 2147483477 / 97 + (s.stir * s.stir + s.stir * 20011 + s.cnt * 1299721 + 40009) % 2147483477 % 6007 * 71) % n, { s with stir := (s.stir * s.stir + s.stir * 20011 + s.cnt * 1299721 + 40009) % 2147483477 })
theorem hD3_runs (n : Int) (s : FS) (o : Option Int) (h : s.Ok) (hn : 0 < n) (hr : ¬ 0 < s.rest) : ∃ ρ', hD3 ⟨feedL s, [some n, o, none, none]⟩ = some (some (drawT n s).1, ⟨feedL (drawT n s).2, ρ'⟩) := by
  unfold hD3
  have hb : (-(2 ^ 64) < s.stir ∧ s.stir < 2 ^ 64) := by
    obtain ⟨h1, h2, _⟩ := h
    constructor <;> omega
  refine ⟨[some n, o, none, some (s.stir * s.stir + s.stir * 20011 + s.cnt * 1299721 + 40009)], ?_⟩
  rw [hSeq_nx (hSet_eq (n := s.stir) rfl)]
  rw [hSeq_nx (hSet_eq (n := s.stir * s.stir + s.stir * 20011 + s.cnt * 1299721 + 40009) (num_add (num_add (num_add (num_mul (a := s.stir) (b := s.stir) rfl rfl (.inl hb)) (num_mul (a := s.stir) (b := 20011) rfl rfl (.inl hb))) (num_mul (a := s.cnt) (b := 1299721) rfl rfl (.inr (by decide)))) rfl))]
  rw [hSeq_nx (hStore_eq (n := (s.stir * s.stir + s.stir * 20011 + s.cnt * 1299721 + 40009) % 2147483477) (m := 4) (num_mod (b := 2147483477) (num_int rfl) rfl (by decide)) rfl)]
  rw [hRet_eq (n := ((s.stir * s.stir + s.stir * 20011 + s.cnt * 1299721 + 40009) % 2147483477 / 97 + (s.stir * s.stir + s.stir * 20011 + s.cnt * 1299721 + 40009) % 2147483477 % 6007 * 71) % n) (num_mod (b := n) (num_int (num_add (num_fdiv (a := (s.stir * s.stir + s.stir * 20011 + s.cnt * 1299721 + 40009) % 2147483477) (b := 97) rfl rfl (by decide)) (num_mul (b := 71) (num_mod (b := 6007) (num_int (a := (s.stir * s.stir + s.stir * 20011 + s.cnt * 1299721 + 40009) % 2147483477) rfl) rfl (by decide)) rfl (.inr (by decide))))) rfl hn)]
  unfold drawT
  rw [if_neg hr]
  rfl
theorem hD2_runs (n : Int) (s : FS) (o : Option Int) (h : s.Ok) (hn : 0 < n) (hn2 : n < 1073741824) : ∃ ρ', hD2 ⟨feedL s, [some n, o, none, none]⟩ = some (some (drawT n s).1, ⟨feedL (drawT n s).2, ρ'⟩) := by
  unfold hD2
  by_cases hr : 0 < s.rest
  · refine ⟨[some n, o, some (s.rest % n), none], ?_⟩
    refine hSeq_rt ?_
    rw [hIf_t (bool_cmp (a := s.rest) (b := 0) rfl rfl (show some (D.bl (decide ((0:Int) < s.rest))) = _ by simp [hr]))]
    rw [hSeq_nx (hSet_eq (n := s.rest % n) (num_mod (a := s.rest) (b := n) (num_int rfl) rfl hn))]
    rw [hSeq_nx (hStore_eq (n := s.rest / n) (m := 2) (num_fdiv (a := s.rest) (b := n) rfl rfl ⟨hn, hn2⟩) rfl)]
    rw [hRet_eq (n := s.rest % n) rfl]
    unfold drawT
    rw [if_pos hr]
    rfl
  · obtain ⟨ρ', e⟩ := hD3_runs n s o h hn hr
    refine ⟨ρ', ?_⟩
    rw [hSeq_nx (d' := ⟨feedL s, [some n, o, none, none]⟩), e]
    rw [hIf_f (bool_cmp (a := s.rest) (b := 0) rfl rfl (show some (D.bl (decide ((0:Int) < s.rest))) = _ by simp [hr]))]
    rfl
def drawH (s : FS) : FS :=
  if s.rest = 0 ∧ s.at_ < s.cells.length then
        match s.cells[s.at_.toNat]? with
        | some c => if 1000000000000000000 ≤ c then { s with at_ := s.at_ + 1, rest := c } else { s with at_ := s.at_ + 1, stir := (s.stir * 30203 + c % 2147483029 * 611 + 53) % 2147483477 }
        | none => s
      else s
theorem drawM_eq (n : Int) (s : FS) (hn : 0 < n) (hn2 : n < 1073741824) : drawM n s = .ok (drawT n (drawH { s with cnt := s.cnt + 1 })).1 (drawT n (drawH { s with cnt := s.cnt + 1 })).2 := by
  show (if 0 < n ∧ n < 1073741824 then (if 0 < (drawH { s with cnt := s.cnt + 1 }).rest then _ else _) else _) = _
  rw [if_pos ⟨hn, hn2⟩]
  unfold drawT
  by_cases h : 0 < (drawH { s with cnt := s.cnt + 1 }).rest
  · rw [if_pos h, if_pos h]; rfl
  · rw [if_neg h, if_neg h]; rfl
theorem drawH_ok (s : FS) (h : s.Ok) : (drawH s).Ok ∧ (drawH s).cells = s.cells := by
  obtain ⟨h1, h2, h3, h4⟩ := h
  unfold drawH
  split
  · split
    · split
      · rename_i c _ h5
        exact ⟨⟨h1, h2, by show 0 ≤ s.at_ + 1; omega, by show 0 ≤ c; omega⟩, rfl⟩
      · exact ⟨⟨Int.emod_nonneg _ (by decide), Int.emod_lt_of_pos _ (by decide), by show 0 ≤ s.at_ + 1; omega, h4⟩, rfl⟩
    · exact ⟨⟨h1, h2, h3, h4⟩, rfl⟩
  · exact ⟨⟨h1, h2, h3, h4⟩, rfl⟩
theorem drawT_ok (n : Int) (s : FS) (hn : 0 < n) (h : s.Ok) : (drawT n s).2.Ok ∧ (drawT n s).2.cells = s.cells ∧ 0 ≤ (drawT n s).1 ∧ (drawT n s).1 < n := by
  obtain ⟨h1, h2, h3, h4⟩ := h
  unfold drawT
  split
  · exact ⟨⟨h1, h2, h3, Int.ediv_nonneg h4 (Int.le_of_lt hn)⟩, rfl, Int.emod_nonneg _ (by omega), Int.emod_lt_of_pos _ hn⟩
  · exact ⟨⟨Int.emod_nonneg _ (by decide), Int.emod_lt_of_pos _ (by decide), h3, h4⟩, rfl, Int.emod_nonneg _ (by omega), Int.emod_lt_of_pos _ hn⟩
theorem hD1_runs (n : Int) (s : FS) (h : s.Ok) : ∃ o, hD1 ⟨feedL s, [some n, none, none, none]⟩ = some (none, ⟨feedL (drawH s), [some n, o, none, none]⟩) := by
  unfold hD1 drawH
  obtain ⟨h1, h2, h3, h4⟩ := h
  have lt : numOf (dFn lenD (lCons (dOp ixD (dVar 0) (dC (.int 0))) lNil)) ⟨feedL s, [some n, none, none, none]⟩ = some s.cells.length := by
    show some ((List.length (s.cells.map D.int) : Nat) : Int) = _
    exact congrArg (fun m : Nat => some (m : Int)) (List.length_map ..)
  by_cases hr : s.rest = 0
  · have b1 : boolOf (cCmp eqD (dOp ixD (dVar 0) (dC (.int 2))) (dC (.int 0))) ⟨feedL s, [some n, none, none, none]⟩ = some true := bool_cmp (a := s.rest) (b := 0) rfl rfl (by rw [eqD_int]; simp [hr])
    by_cases ha : s.at_ < s.cells.length
    · have b2 : boolOf (cCmp ltD (dOp ixD (dVar 0) (dC (.int 1))) (dFn lenD (lCons (dOp ixD (dVar 0) (dC (.int 0))) lNil))) ⟨feedL s, [some n, none, none, none]⟩ = some true := bool_cmp (a := s.at_) rfl lt (show some (D.bl (decide _)) = _ by simp [ha])
      obtain ⟨c, hc⟩ : ∃ c, s.cells[s.at_.toNat]? = some c := ⟨_, List.getElem?_eq_getElem (by omega)⟩
      have hix : ixD (.lst (s.cells.map D.int)) (.int s.at_) = some (.int c) := by
        show atI (s.cells.map D.int) s.at_ = _
        unfold atI ixN
        rw [if_pos h3, if_pos (by rw [List.length_map]; exact ha)]
        show (s.cells.map D.int)[s.at_.toNat]? = _
        rw [List.getElem?_map, hc]
        rfl
      have nc : numOf (dOp ixD (dOp ixD (dVar 0) (dC (.int 0))) (dOp ixD (dVar 0) (dC (.int 1)))) ⟨feedL s, [some n, none, none, none]⟩ = some c := by
        show (match (M.lift (ixD (.lst (s.cells.map D.int)) (.int s.at_)) fs0 : Res D) with | .ok (.int n) ⟨[], 0, 0, 0, 0⟩ => some n | _ => none) = _
        rw [hix]
        rfl
      rw [if_pos ⟨hr, ha⟩, hc]
      refine ⟨some c, ?_⟩
      rw [hIf_t ((bool_and b1).trans b2), hSeq_nx (hSet_eq nc), hSeq_nx (hStore_eq (n := s.at_ + 1) (m := 1) rfl rfl)]
      show hIf _ _ _ _ = some (none, ⟨feedL (if _ then _ else _), _⟩)
      by_cases h18 : 1000000000000000000 ≤ c
      · rw [if_pos h18, hIf_t (bool_cmp (a := c) (b := 1000000000000000000) rfl rfl (show some (D.bl (decide _)) = _ by simp [h18])), hStore_eq (n := c) (m := 2) rfl rfl]
        rfl
      · rw [if_neg h18, hIf_f (bool_cmp (a := c) (b := 1000000000000000000) rfl rfl (show some (D.bl (decide _)) = _ by simp [h18]))]
        have e1 : numOf (dOp modD (dFn intF (lCons (dOp addD (dOp addD (dOp mulD (dOp ixD (dVar 0) (dC (.int 4))) (dC (.int 30203))) (dOp mulD (dOp modD (dFn intF (lCons (dVar 2) lNil)) (dC (.int 2147483029))) (dC (.int 611)))) (dC (.int 53))) lNil)) (dC (.int 2147483477))) (⟨[.lst (s.cells.map D.int), .int (s.at_ + 1), .int s.rest, .int s.cnt, .int s.stir], [some n, some c, none, none]⟩) = some ((s.stir * 30203 + c % 2147483029 * 611 + 53) % 2147483477) :=
          num_mod (b := 2147483477) (num_int (num_add (num_add (num_mul (a := s.stir) (b := 30203) rfl rfl (.inr (by decide))) (num_mul (b := 611) (num_mod (b := 2147483029) (num_int (a := c) rfl) rfl (by decide)) rfl (.inr (by decide)))) rfl)) rfl (by decide)
        exact hStore_eq e1 (m := 4) rfl
    · have b2 : boolOf (cCmp ltD (dOp ixD (dVar 0) (dC (.int 1))) (dFn lenD (lCons (dOp ixD (dVar 0) (dC (.int 0))) lNil))) ⟨feedL s, [some n, none, none, none]⟩ = some false := bool_cmp (a := s.at_) rfl lt (show some (D.bl (decide _)) = _ by simp [ha])
      rw [if_neg fun z => ha z.2]
      refine ⟨none, ?_⟩
      rw [hIf_f ((bool_and b1).trans b2)]
      rfl
  · have b1 : boolOf (cCmp eqD (dOp ixD (dVar 0) (dC (.int 2))) (dC (.int 0))) ⟨feedL s, [some n, none, none, none]⟩ = some false := bool_cmp (a := s.rest) (b := 0) rfl rfl (by rw [eqD_int]; simp [hr])
    rw [if_neg fun z => hr z.1]
    refine ⟨none, ?_⟩
    rw [hIf_f (bool_and0 b1)]
    rfl
theorem hDraw_runs (i : Int) (s s' : FS) (k : Int) (h : s.Ok) (e : drawM i s = .ok k s') : s'.Ok ∧ s'.cells = s.cells ∧ ∃ ρ', hDraw ⟨feedL s, some i :: List.replicate 3 none⟩ = some (some k, ⟨feedL s', ρ'⟩) := by
  by_cases hi : 0 < i ∧ i < 1073741824
  · rw [drawM_eq i s hi.1 hi.2] at e
    have h0 : ({ s with cnt := s.cnt + 1 } : FS).Ok := h
    obtain ⟨k1, k2⟩ := drawH_ok _ h0
    obtain ⟨k3, k4, _, _⟩ := drawT_ok i _ hi.1 k1
    injection e with e1 e2
    subst e1 e2
    refine ⟨k3, k4.trans k2, ?_⟩
    obtain ⟨o, p1⟩ := hD1_runs i _ h0
    obtain ⟨ρ', p2⟩ := hD2_runs i _ o k1 hi.1 hi.2
    refine ⟨ρ', ?_⟩
    unfold hDraw
    rw [hSeq_nx (hStore_eq (n := s.cnt + 1) (m := 3) rfl rfl)]
    exact (hSeq_nx p1).trans p2
  · have : drawM i s = .bad := if_neg hi
    rw [this] at e
    cases e
/-- a draw gives a number -/
theorem drawM_some {n : Int} (hn : 0 < n) (hn2 : n < 1073741824) (s : FS) (h : s.Ok) : ∃ k s', drawM n s = .ok k s' ∧ s'.Ok ∧ s'.cells = s.cells ∧ 0 ≤ k ∧ k < n := by
  have h0 : ({ s with cnt := s.cnt + 1 } : FS).Ok := h
  obtain ⟨k1, k2⟩ := drawH_ok _ h0
  obtain ⟨k3, k4, k5, k6⟩ := drawT_ok n _ hn k1
  exact ⟨_, _, drawM_eq n s hn hn2, k3, k4.trans k2, k5, k6⟩
end DL

set_option Elab.async false
set_option linter.all false
set_option maxRecDepth 100000
set_option maxHeartbeats 2000000
/-! The data layer: how what a text computes is told, step by step. -/
namespace DL
open PySem PySem.Spec PyProof.Rows L2
/-- m ends well, with Q -/
structure Rm {α : Type} (m : M α) (s : FS) (Q : α → FS → Prop) : Prop where
  ends : match m s with
  | .ok a s' => Q a s'
  | _ => False
def seqK (g : Sts → M (Fl × Sts)) (p : Fl × Sts) : M (Fl × Sts) := match p.1 with
  | .nx => g p.2
  | _ => M.pure p
def runK (p : Fl × Sts) : M D := match p.1 with
    | .nx => M.pure .non
    | .rt d => M.pure d
    | _ => M.bad
namespace Rm
section
variable {α β : Type} {m : M α} {s s' : FS} {Q R : α → FS → Prop} {a : α} {o : Option α}
theorem eq (h : m s = .ok a s') (q : Q a s') : Rm m s Q := ⟨by rw [h]; exact q⟩
theorem out (h : Rm m s Q) : ∃ a s', m s = .ok a s' ∧ Q a s' := by
  obtain ⟨h⟩ := h
  split at h
  · exact ⟨_, _, by assumption, h⟩
  · exact h.elim
theorem mono (h : Rm m s Q) (k : ∀ a s', Q a s' → R a s') : Rm m s R := by
  obtain ⟨a, s', e, q⟩ := h.out
  exact eq e (k a s' q)
theorem det (h : Rm m s fun b s' => b = a ∧ s' = s) : m s = .ok a s := by
  obtain ⟨b, s', e, rfl, rfl⟩ := h.out
  exact e
theorem bind {f : α → M β} {Q : β → FS → Prop} (h : Rm m s fun a s' => Rm (f a) s' Q) : Rm (M.bind m f) s Q := by
  obtain ⟨a, s', e, q⟩ := h.out
  obtain ⟨b, s2, e2, q2⟩ := q.out
  refine eq (a := b) (s' := s2) ?_ q2
  unfold M.bind
  rw [e]
  exact e2
theorem bindP {f : α → β} {Q : β → FS → Prop} (h : Rm m s fun a s' => Q (f a) s') : Rm (M.bind m fun a => M.pure (f a)) s Q := bind (h.mono fun _ _ h => ⟨h⟩)
theorem pure (h : Q a s) : Rm (M.pure a) s Q := ⟨h⟩
theorem lift (e : o = some a) (h : Q a s) : Rm (M.lift o) s Q := by subst e; exact ⟨h⟩
theorem lift2 (h : ∃ a, o = some a ∧ Q a s) : Rm (M.lift o) s Q := by
  obtain ⟨a, e, h⟩ := h
  exact lift e h
theorem quiet (h : Rm m s Q) : Rm (M.quiet m) s Q := by
  obtain ⟨a, s', e, q⟩ := h.out
  refine eq (a := a) (s' := s') ?_ q
  unfold M.quiet
  rw [e]
theorem iteT {x y : M α} (h : Rm x s Q) : Rm (if true = true then x else y) s Q := h
theorem iteF {x y : M α} (h : Rm y s Q) : Rm (if false = true then x else y) s Q := h
theorem ifT {x y : M α} {k : Bool} (e : k = true) (h : Rm x s Q) : Rm (if k = true then x else y) s Q := by
  subst e; exact h
theorem ifF {x y : M α} {k : Bool} (e : k = false) (h : Rm y s Q) : Rm (if k = true then x else y) s Q := by
  subst e; exact h
theorem ite {x y : M α} {c : Bool} (h : c = true → Rm x s Q) (h2 : c = false → Rm y s Q) : Rm (if c = true then x else y) s Q := by
  cases c with
  | true => exact h rfl
  | false => exact h2 rfl
end
section
variable {ρ : Env'} {s : FS} {f f1 f2 f3 : Env' → M D} {fl : Env' → M (List D)} {g : D → D → Option D} {Q : D → FS → Prop} {QL : List D → FS → Prop} {QB : Bool → FS → Prop} {i : Nat} {d : D} {c c1 c2 : Env' → M Bool}
theorem var (h : Rm (M.lift (ρ[i]?.join)) s Q) : Rm (dVar i ρ) s Q := h
theorem con (h : Q d s) : Rm (dC d ρ) s Q := ⟨h⟩
theorem op (h : Rm (f1 ρ) s fun x s => Rm (f2 ρ) s fun y s => Rm (M.lift (g x y)) s Q) : Rm (dOp g f1 f2 ρ) s Q := bind (h.mono fun _ _ h => bind h)
theorem un {g : D → Option D} (h : Rm (f1 ρ) s fun x s => Rm (M.lift (g x)) s Q) : Rm (dUn g f1 ρ) s Q := bind h
theorem lnil (h : QL [] s) : Rm (lNil ρ) s QL := ⟨h⟩
theorem lcons (h : Rm (f1 ρ) s fun x s => Rm (fl ρ) s fun xs s => QL (x :: xs) s) : Rm (lCons f1 fl ρ) s QL := bind (h.mono fun _ _ h => bindP h)
theorem fn {g : List D → Option D} (h : Rm (fl ρ) s fun xs s => Rm (M.lift (g xs)) s Q) : Rm (dFn g fl ρ) s Q := bind h
theorem call {g : List D → M D} (h : Rm (fl ρ) s fun xs s => Rm (g xs) s Q) : Rm (dCall g fl ρ) s Q := bind h
theorem mt {g : D → List D → Option D} (h : Rm (f1 ρ) s fun x s => Rm (fl ρ) s fun xs s => Rm (M.lift (g x xs)) s Q) : Rm (dMt g f1 fl ρ) s Q := bind (h.mono fun _ _ h => bind h)
theorem mtT {T : String} {g : D → List D → Option D} (h : Rm (f1 ρ) s fun x s => tyD x = some T ∧ Rm (fl ρ) s fun xs s => Rm (M.lift (g x xs)) s Q) : Rm (dMtT T g f1 fl ρ) s Q := bind (h.mono fun x s ⟨h1, h2⟩ => by
  rw [if_pos h1]
  exact bind h2)
theorem dif (h : Rm (c ρ) s fun k s => Rm (if k = true then f1 ρ else f2 ρ) s Q) : Rm (dIf c f1 f2 ρ) s Q := bind h
theorem dand (h : Rm (f1 ρ) s fun x s => Rm (M.lift (truthD x)) s fun k s => Rm (if k = true then f2 ρ else M.pure x) s Q) : Rm (dAnd f1 f2 ρ) s Q := bind (h.mono fun _ _ h => bind h)
theorem dor (h : Rm (f1 ρ) s fun x s => Rm (M.lift (truthD x)) s fun k s => Rm (if k = true then M.pure x else f2 ρ) s Q) : Rm (dOr f1 f2 ρ) s Q := bind (h.mono fun _ _ h => bind h)
theorem dnot (h : Rm (f1 ρ) s fun x s => Rm (M.lift (truthD x)) s fun k s => Q (.bl (!k)) s) : Rm (dNot f1 ρ) s Q := bind (h.mono fun _ _ h => bindP h)
theorem tru (h : Rm (f1 ρ) s fun x s => Rm (M.lift (truthD x)) s QB) : Rm (cTru f1 ρ) s QB := bind h
theorem cmp (h : Rm (f1 ρ) s fun x s => Rm (f2 ρ) s fun y s => Rm (M.lift (g x y)) s fun z s => Rm (M.lift (blD z)) s QB) : Rm (cCmp g f1 f2 ρ) s QB := bind (h.mono fun _ _ h => bind (h.mono fun _ _ h => bind h))
theorem cnot (h : Rm (c ρ) s fun k s => QB (!k) s) : Rm (cNot c ρ) s QB := bindP h
theorem cand (h : Rm (c1 ρ) s fun k s => Rm (if k = true then c2 ρ else M.pure false) s QB) : Rm (cAnd c1 c2 ρ) s QB := bind h
theorem cor (h : Rm (c1 ρ) s fun k s => Rm (if k = true then M.pure true else c2 ρ) s QB) : Rm (cOr c1 c2 ρ) s QB := bind h
theorem cyes (h : QB true s) : Rm (cYes ρ) s QB := ⟨h⟩
theorem isi {ts : List String} (h : Rm (f ρ) s fun x s => Rm (M.lift ((tyD x).bind fun t => (kitAnyB t ts).map D.bl)) s Q) : Rm (dIsi ts f ρ) s Q := bind h
def get2K (f2 f3 : Env' → M D) (ρ : Env') : D → M D
  | .dic kvs => (f2 ρ).bind fun k => (f3 ρ).bind fun z => M.lift ((keyD k).map fun k => (lookD kvs k).getD z)
  | _ => M.bad
theorem get2 (h : Rm (f1 ρ) s fun x s => Rm (get2K f2 f3 ρ x) s Q) : Rm (dGet2 f1 f2 f3 ρ) s Q := bind (h.mono fun x s h => by
  cases x <;> exact h)
theorem get2k {kvs : List (Key × D)} (h : Rm (f2 ρ) s fun k s => Rm (f3 ρ) s fun z s => Rm (M.lift ((keyD k).map fun k => (lookD kvs k).getD z)) s Q) : Rm (get2K f2 f3 ρ (.dic kvs)) s Q := bind (h.mono fun _ _ h => bind h)
theorem dnew (h : Rm (fl ρ) s fun xs s => Q (.lst xs) s) : Rm (dNew fl ρ) s Q := bindP h
theorem sl {lo hi : Env' → M (Option Int)} (h : Rm (f ρ) s fun x s => Rm (lo ρ) s fun l s => Rm (hi ρ) s fun u s => Rm (M.lift (slD x l u)) s Q) : Rm (dSl f lo hi ρ) s Q := bind (h.mono fun _ _ h => bind (h.mono fun _ _ h => bind h))
theorem ono {Q : Option Int → FS → Prop} (h : Q none s) : Rm (oNo ρ) s Q := ⟨h⟩
theorem osome {Q : Option Int → FS → Prop} (h : Rm (f ρ) s fun x s => Rm (M.lift (intD x)) s Q) : Rm (oSome f ρ) s Q := bind h
theorem iany (h : Rm (f ρ) s fun x s => Rm (M.lift (anyD' x)) s QL) : Rm (iAny f ρ) s QL := bind h
theorem ifn {g : List D → Option (List D)} (h : Rm (fl ρ) s fun x s => Rm (M.lift (g x)) s QL) : Rm (iFn g fl ρ) s QL := bind h
theorem lc {it : Env' → M (List D)} {b : D → Option Asg} (h : Rm (it ρ) s fun xs s => xs.length ≤ sizeLine ∧ Rm (lcE b c f xs ρ) s QL) : Rm (dLc it b c f ρ) s QL := bind (h.mono fun xs s ⟨h1, h2⟩ => by
  rw [if_pos h1]
  exact h2.quiet)
end
section
variable {ρ : Sts} {s : FS} {f : Env' → M D} {fv fv2 : Sts → M (EV × Sts)} {fl : Sts → M (List D × Sts)} {g g' : Sts → M (Fl × Sts)} {Q : Fl × Sts → FS → Prop} {QV : EV × Sts → FS → Prop} {QL : List D × Sts → FS → Prop} {i j : Nat} {d : D} {c : Env' → M Bool} {x : D}
theorem seq (h : Rm (g ρ) s fun p s => Rm (seqK g' p) s Q) : Rm (gSeq g g' ρ) s Q := bind h
theorem seq1 {ρ' : Sts} (h1 : Rm (g ρ) s fun p s' => p = (.nx, ρ') ∧ s' = s) (h2 : Rm (g' ρ') s Q) : Rm (gSeq g g' ρ) s Q := seq (h1.mono fun p s' h => by
  obtain ⟨rfl, rfl⟩ := h
  exact h2)
theorem seqNx (h : Rm (g ρ) s Q) : Rm (seqK g (.nx, ρ)) s Q := h
theorem seqRt (h : Q (.rt d, ρ) s) : Rm (seqK g (.rt d, ρ)) s Q := ⟨h⟩
theorem seqCt (h : Q (.ct, ρ) s) : Rm (seqK g (.ct, ρ)) s Q := ⟨h⟩
theorem seqBk (h : Q (.bk, ρ) s) : Rm (seqK g (.bk, ρ)) s Q := ⟨h⟩
theorem next (h : Q (.nx, ρ) s) : Rm (gNext ρ) s Q := ⟨h⟩
theorem set (h : Rm (fv ρ) s fun p s => Q (.nx, p.2.set i p.1) s) : Rm (gSet i fv ρ) s Q := bindP h
theorem drop (h : Rm (fv ρ) s fun p s => Q (.nx, p.2) s) : Rm (gDrop fv ρ) s Q := bindP h
theorem cond (h : Rm (c (view ρ)) s fun k s => Rm (if k = true then g ρ else g' ρ) s Q) : Rm (gIf c g g' ρ) s Q := bind h
theorem ret (h : Rm (f (view ρ)) s fun x s => Q (.rt x, ρ) s) : Rm (gRet f ρ) s Q := bindP h
theorem retN (h : Q (.rt .non, ρ) s) : Rm (gRetN ρ) s Q := ⟨h⟩
theorem brk (h : Q (.bk, ρ) s) : Rm (gBreak ρ) s Q := ⟨h⟩
theorem cont (h : Q (.ct, ρ) s) : Rm (gCont ρ) s Q := ⟨h⟩
theorem frz (h : Rm (g (DL.frz i ρ)) s Q) : Rm (gFrz i g ρ) s Q := h
theorem vmask (h : Rm (f (mask ρ)) s fun x s => QV (.d x, ρ) s) : Rm (vMask f ρ) s QV := bindP h
theorem vview (h : Rm (f (view ρ)) s fun x s => Rm (M.lift (scalD x)) s fun x s => QV (.d x, ρ) s) : Rm (vView f ρ) s QV := bind (h.mono fun _ _ h => bindP h)
theorem vnew {f : Env' → M (List D)} (h : Rm (f (mask ρ)) s fun x s => QV (.ol x, ρ) s) : Rm (vNew f ρ) s QV := bindP h
theorem vnewD (h : QV (.od [], ρ) s) : Rm (vNewD ρ) s QV := ⟨h⟩
theorem lvnil (h : QL ([], ρ) s) : Rm (lvNil ρ) s QL := ⟨h⟩
def lvK (fl : Sts → M (List D × Sts)) (p : EV × Sts) : M (List D × Sts) := match p.1 with
  | .d x => (fl p.2).bind fun q => M.pure (x :: q.1, q.2)
  | _ => M.bad
theorem lvcons (h : Rm (fv ρ) s fun p s => Rm (lvK fl p) s QL) : Rm (lvCons fv fl ρ) s QL := bind h
theorem lvk (h : Rm (fl ρ) s fun q s => QL (x :: q.1, q.2) s) : Rm (lvK fl (.d x, ρ)) s QL := bindP h
def mtK (i : Nat) (mo : List D → List D → Option (D × List D)) (q : List D × Sts) : M (EV × Sts) := match q.2[i]? with
    | some (.ol xs) => (M.lift (mo xs q.1)).bind fun z => M.pure (.d z.1, q.2.set i (.ol z.2))
    | _ => M.bad
theorem vmt {mo : List D → List D → Option (D × List D)} {xs : List D} (e : ρ[i]? = some (.ol xs)) (h : Rm (fl ρ) s fun q s => Rm (mtK i mo q) s QV) : Rm (vMt i mo fl ρ) s QV := by
  unfold vMt
  rw [e]
  exact bind h
theorem mtk {mo : List D → List D → Option (D × List D)} {xs as : List D} (e : ρ[i]? = some (.ol xs)) (h : Rm (M.lift (mo xs as)) s fun z s => QV (.d z.1, ρ.set i (.ol z.2)) s) : Rm (mtK i mo (as, ρ)) s QV := by
  unfold mtK
  dsimp only
  rw [e]
  exact bindP h
def asgK (b : D → Option Asg) (p : EV × Sts) : M (Fl × Sts) := match p.1 with
  | .d x => (M.lift (b x)).bind fun as => M.pure (.nx, setS as p.2)
  | _ => M.bad
theorem asgT {b : D → Option Asg} (h : Rm (fv ρ) s fun p s => Rm (asgK b p) s Q) : Rm (gAsgT b fv ρ) s Q := bind h
theorem asgk {b : D → Option Asg} (h : Rm (M.lift (b x)) s fun as s => Q (.nx, setS as ρ) s) : Rm (asgK b (.d x, ρ)) s Q := bindP h
theorem par (hl : i < ρ.length ∧ j < ρ.length) (h : Rm (fv ρ) s fun p s => Rm (fv2 p.2) s fun q s => Q (.nx, (q.2.set i p.1).set j q.1) s) : Rm (gPar i j fv fv2 ρ) s Q := by
  unfold gPar
  rw [if_pos hl]
  exact bind (h.mono fun _ _ h => bindP h)
theorem for_ {it : Env' → M (List D)} {b : D → Option Asg} (h : Rm (it (mask ρ)) s fun xs s => Rm (forS b g xs ρ) s Q) : Rm (gFor it b g ρ) s Q := bind h
def stdK (i : Nat) (fk : Sts → M (EV × Sts)) (p : EV × Sts) : M (Fl × Sts) := match p.2[i]? with
  | some (.od _) => (fk p.2).bind fun q => match p.1, q.1, q.2[i]? with
    | .d y, .d kk, some (.od xs) => (M.lift (keyD kk)).bind fun k => if xs.length < sizeLine then M.pure (.nx, q.2.set i (.od (putD xs k y))) else M.bad
    | _, _, _ => M.bad
  | _ => M.bad
theorem stD (h : Rm (fv ρ) s fun p s => Rm (stdK i fv2 p) s Q) : Rm (gStD i fv fv2 ρ) s Q := bind h
def stdK2 (i : Nat) (y : D) (q : EV × Sts) : M (Fl × Sts) := match q.1, q.2[i]? with
    | .d kk, some (.od xs) => (M.lift (keyD kk)).bind fun k => if xs.length < sizeLine then M.pure (.nx, q.2.set i (.od (putD xs k y))) else M.bad
    | _, _ => M.bad
theorem stdk {xs : List (Key × D)} (e : ρ[i]? = some (.od xs)) (h : Rm (fv2 ρ) s fun q s => Rm (stdK2 i x q) s Q) : Rm (stdK i fv2 (.d x, ρ)) s Q := by
  unfold stdK
  dsimp only
  rw [e]
  refine bind (h.mono fun q s' h => ?_)
  obtain ⟨a, ρ'⟩ := q
  unfold stdK2 at h
  dsimp only at h ⊢
  split at h
  · rename_i h1
    rw [h1]
    exact h
  · obtain ⟨a, s2, e, _⟩ := h.out
    cases e
theorem stdk2 {xs : List (Key × D)} {kk : D} (e : ρ[i]? = some (.od xs)) (hl : xs.length < sizeLine) (h : Rm (M.lift (keyD kk)) s fun k s => Q (.nx, ρ.set i (.od (putD xs k x))) s) : Rm (stdK2 i x (.d kk, ρ)) s Q := by
  unfold stdK2
  dsimp only
  rw [e]
  refine bind (h.mono fun q s' h => ?_)
  rw [if_pos hl]
  exact ⟨h⟩
/-- a loop, with what holds ahead of each pass -/
theorem loop {b : D → Option Asg} {xs : List D} (I : List D → Sts → FS → Prop) (h0 : I xs ρ s)
    (h1 : ∀ x r ρ s, I (x :: r) ρ s → ∃ as, b x = some as ∧ Rm (g (setS as ρ)) s fun p s => match p.1 with
      | .nx => I r p.2 s
      | .ct => I r p.2 s
      | .bk => Q (.nx, p.2) s
      | .rt d => Q (.rt d, p.2) s)
    (h2 : ∀ ρ s, I [] ρ s → Q (.nx, ρ) s) : Rm (forS b g xs ρ) s Q := by
  induction xs generalizing ρ s with
  | nil => exact ⟨h2 _ _ h0⟩
  | cons x r ih =>
    obtain ⟨as, e, h⟩ := h1 _ _ _ _ h0
    show Rm (M.bind (M.lift (b x)) _) s Q
    rw [e]
    refine bind (lift rfl (bind (h.mono fun p s' h => ?_)))
    obtain ⟨k, ρ'⟩ := p
    cases k with
    | nx => exact ih h
    | ct => exact ih h
    | bk => exact ⟨h⟩
    | rt d => exact ⟨h⟩
end
section
variable {ρ : Env'} {s : FS} {b : D → Option Asg} {f : Env' → M D} {c : Env' → M Bool} {xs : List D} {Q : List D → FS → Prop}
/-- a comprehension with no test -/
theorem lcY (I : FS → Prop) (P : D → D → Prop) (h0 : I s) (h1 : ∀ x s, x ∈ xs → I s → ∃ as, b x = some as ∧ Rm (f (setE as ρ)) s fun y s => P x y ∧ I s)
    (h2 : ∀ (ys : List D) (s : FS), ys.length = xs.length → (∀ (i : Nat) (x y : D), xs[i]? = some x → ys[i]? = some y → P x y) → I s → Q ys s) : Rm (lcE b cYes f xs ρ) s Q := by
  induction xs generalizing s Q with
  | nil => exact ⟨h2 _ _ rfl (fun i x y h => by simp at h) h0⟩
  | cons x r ih =>
    obtain ⟨as, e, h⟩ := h1 x s List.mem_cons_self h0
    show Rm (M.bind (M.lift (b x)) _) s Q
    rw [e]
    refine bind (lift rfl (bind ?_))
    refine cyes ?_
    rw [if_pos rfl]
    refine bind (h.mono fun y s' h => bind ?_)
    refine ih h.2 (fun x s hx => h1 x s (List.mem_cons_of_mem _ hx)) fun ys s2 e2 p2 i2 => ?_
    refine ⟨h2 (y :: ys) s2 (by simp [e2]) (fun i x' y' hx hy => ?_) i2⟩
    cases i with
    | zero => simp at hx hy; subst hx hy; exact h.1
    | succ i => exact p2 i x' y' (by simpa using hx) (by simpa using hy)
theorem lcMap (F : D → D) (h1 : ∀ x, x ∈ xs → ∃ as, b x = some as ∧ f (setE as ρ) s = .ok (F x) s) (h2 : Q (xs.map F) s) : Rm (lcE b cYes f xs ρ) s Q := by
  refine lcY (fun s' => s' = s) (fun x y => y = F x) rfl (fun x s' hx e => ?_) fun ys s' e p i => ?_
  · subst e
    obtain ⟨as, e1, e2⟩ := h1 x hx
    exact ⟨as, e1, eq e2 ⟨rfl, rfl⟩⟩
  · subst i
    have : ys = xs.map F := by
      refine List.ext_getElem? fun i => ?_
      rw [List.getElem?_map]
      cases q : ys[i]? with
      | none =>
        have : xs[i]? = none := by
          rw [List.getElem?_eq_none_iff] at q ⊢
          omega
        rw [this]; rfl
      | some y =>
        obtain ⟨x, hx⟩ : ∃ x, xs[i]? = some x := ⟨_, List.getElem?_eq_getElem (by have := (List.getElem?_eq_some_iff.mp q).1; omega)⟩
        rw [hx, p i x y hx q]; rfl
    rw [this]
    exact h2
/-- a comprehension with a test -/
theorem lcT (I : FS → Prop) (P : D → Prop) (h0 : I s) (h1 : ∀ x s, x ∈ xs → I s → ∃ as, b x = some as ∧ Rm (c (setE as ρ)) s fun k s => if k = true then Rm (f (setE as ρ)) s fun y s => P y ∧ I s else I s)
    (h2 : ∀ (ys : List D) (s : FS), ys.length ≤ xs.length → (∀ y, y ∈ ys → P y) → I s → Q ys s) : Rm (lcE b c f xs ρ) s Q := by
  induction xs generalizing s Q with
  | nil => exact ⟨h2 _ _ (Nat.le_refl _) (fun y h => by simp at h) h0⟩
  | cons x r ih =>
    obtain ⟨as, e, h⟩ := h1 x s List.mem_cons_self h0
    show Rm (M.bind (M.lift (b x)) _) s Q
    rw [e]
    refine bind (lift rfl (bind (h.mono fun k s1 h => ?_)))
    cases k with
    | true =>
      rw [if_pos rfl] at h ⊢
      refine bind (h.mono fun y s' h => bind ?_)
      refine ih h.2 (fun x s hx => h1 x s (List.mem_cons_of_mem _ hx)) fun ys s2 e2 p2 i2 => ?_
      refine ⟨h2 (y :: ys) s2 (by simp [e2]) (fun y' hy => ?_) i2⟩
      rcases List.mem_cons.mp hy with rfl | hy
      · exact h.1
      · exact p2 _ hy
    | false =>
      rw [if_neg (by decide)] at h ⊢
      exact ih h (fun x s hx => h1 x s (List.mem_cons_of_mem _ hx)) fun ys s2 e2 => h2 ys s2 (Nat.le_succ_of_le e2)
theorem run {n k : Nat} {body : Sts → M (Fl × Sts)} {ds : List D} {Q : D → FS → Prop} (hk : ds.length = k) (h : Rm (body (ds.map EV.d ++ List.replicate (n - k) .no)) s fun p s => Rm (runK p) s Q) : Rm (runD n k body ds) s Q := by
  unfold runD
  rw [if_pos hk]
  exact bind h
theorem runNx {ρ : Sts} {Q : D → FS → Prop} (h : Q .non s) : Rm (runK (.nx, ρ)) s Q := ⟨h⟩
theorem runRt {ρ : Sts} {d : D} {Q : D → FS → Prop} (h : Q d s) : Rm (runK (.rt d, ρ)) s Q := ⟨h⟩
theorem draw {n : Int} {Q : D → FS → Prop} (hn : 0 < n) (hn2 : n < 1073741824) (h : s.Ok) (q : ∀ (k : Int) s', s'.Ok → 0 ≤ k → k < n → Q (.int k) s') : Rm (feedFn drawM [.feed, .int n]) s Q := by
  obtain ⟨k, s', e, h1, h2, h3, h4⟩ := drawM_some hn hn2 s h
  refine eq (a := .int k) (s' := s') ?_ (q k s' h1 h3 h4)
  show (match drawM n s with
    | .ok k s' => Res.ok (D.int k) s'
    | _ => .bad) = _
  rw [e]
end
end Rm
theorem rng1_eq {j : Int} (h : -(2 ^ 62) ≤ j) (h2 : j < 2 ^ 62) : rng1 [.int j] = some (rangeD 0 j.toNat) := if_pos ⟨h, h2⟩
theorem rng2_eq {i j : Int} (h : -(2 ^ 62) ≤ i) (h2 : i < 2 ^ 62) (h3 : -(2 ^ 62) ≤ j) (h4 : j < 2 ^ 62) : rng2 [.int i, .int j] = some (rangeD i (j - i).toNat) := if_pos ⟨h, h2, h3, h4⟩
theorem Rm.rng1 {j : Int} {s : FS} {Q : List D → FS → Prop} (h : -(2 ^ 62) ≤ j ∧ j < 2 ^ 62) (q : Q (rangeD 0 j.toNat) s) : Rm (M.lift (DL.rng1 [.int j])) s Q := Rm.lift (rng1_eq h.1 h.2) q
theorem Rm.rng2 {i j : Int} {s : FS} {Q : List D → FS → Prop} (h : (-(2 ^ 62) ≤ i ∧ i < 2 ^ 62) ∧ (-(2 ^ 62) ≤ j ∧ j < 2 ^ 62)) (q : Q (rangeD i (j - i).toNat) s) : Rm (M.lift (DL.rng2 [.int i, .int j])) s Q := Rm.lift (rng2_eq h.1.1 h.1.2 h.2.1 h.2.2) q
theorem Rm.modp {a b : Int} {s : FS} {Q : D → FS → Prop} (h : 0 < b) (q : Q (.int (a % b)) s) : Rm (M.lift (modD (.int a) (.int b))) s Q := Rm.lift (if_pos h) q
theorem Rm.mulp {a b : Int} {s : FS} {Q : D → FS → Prop} (h : (-(2 ^ 64) < a ∧ a < 2 ^ 64) ∨ (-(2 ^ 64) < b ∧ b < 2 ^ 64)) (q : Q (.int (a * b)) s) : Rm (M.lift (mulD (.int a) (.int b))) s Q := Rm.lift (if_pos h) q
theorem Rm.fdivp {a b : Int} {s : FS} {Q : D → FS → Prop} (h : 0 < b ∧ b < 1073741824) (q : Q (.int (a / b)) s) : Rm (M.lift (fdivD (.int a) (.int b))) s Q := Rm.lift (if_pos h) q
theorem Rm.addl {a b : List D} {s : FS} {Q : D → FS → Prop} (h : a.length + b.length ≤ sizeLine) (q : Q (.lst (a ++ b)) s) : Rm (M.lift (addD (.lst a) (.lst b))) s Q := Rm.lift (if_pos h) q
theorem Rm.addt {a b : List D} {s : FS} {Q : D → FS → Prop} (h : a.length + b.length ≤ sizeLine) (q : Q (.tup (a ++ b)) s) : Rm (M.lift (addD (.tup a) (.tup b))) s Q := Rm.lift (if_pos h) q
theorem Rm.app {xs : List D} {y : D} {s : FS} {Q : D × List D → FS → Prop} (h : xs.length < sizeLine) (q : Q (.non, xs ++ [y]) s) : Rm (M.lift (moAppend xs [y])) s Q := Rm.lift (if_pos h) q
theorem Rm.eqi {a b : Int} {s : FS} {Q : D → FS → Prop} (q : Q (.bl (decide (a = b))) s) : Rm (M.lift (eqD (.int a) (.int b))) s Q := Rm.lift (eqD_int a b) q
theorem rangeD_len (lo : Int) (n : Nat) : (rangeD lo n).length = n := by simp [rangeD]
theorem rangeD_get2 {lo : Int} {n i : Nat} {x : D} (h : (rangeD lo n)[i]? = some x) : i < n ∧ x = .int (lo + i) := by
  unfold rangeD at h
  rw [List.getElem?_map] at h
  cases q : (List.range n)[i]? with
  | none => rw [q] at h; cases h
  | some k =>
    rw [q] at h
    obtain ⟨h1, h2⟩ := List.getElem?_eq_some_iff.mp q
    rw [List.getElem_range] at h2
    subst h2
    cases h
    exact ⟨by simpa using h1, rfl⟩
theorem rangeD_mem {lo : Int} {n : Nat} {x : D} (h : x ∈ rangeD lo n) : ∃ i : Nat, i < n ∧ x = .int (lo + i) := by
  unfold rangeD at h
  obtain ⟨i, hi, rfl⟩ := List.mem_map.mp h
  exact ⟨i, by simpa using hi, rfl⟩
theorem fs1_ok (ns : List Int) : (fs1 ns).Ok := ⟨(stir_ok ns).1, (stir_ok ns).2, Int.le_refl _, Int.le_refl _⟩
end DL

set_option Elab.async false
set_option linter.all false
set_option maxRecDepth 100000
set_option maxHeartbeats 2000000
/-! The data layer: lists of a text's signs, sorted, names of the module, calls by keyword, defs that hand on a new list. -/
namespace DL
open PySem PySem.Spec PyProof.Rows L2
/-- the signs of a text -/
def signsD (z : Str) : List D := z.cps.toList.map fun c => .str ⟨#[c]⟩
section
variable {X : Cx} {fa : Option FA}
def rListT : List V → Hp → VK → Prop := fun xs H Q => ∃ z : Str, xs = [.str z] ∧ z.cps.size ≤ sizeLine ∧ ∀ l, H l = none → Q (.ref l) (upd H l (.lst (z.cps.toList.map fun c => V.str ⟨#[c]⟩)))
theorem call_list_text (hc : X.calm = true) : CallR X (.type "list") rListT := by
  intro pins s σ H xs us Q I r h
  obtain ⟨z, e, hz, q⟩ := h
  subst e
  obtain ⟨u, eu, rx⟩ := vals1 r
  subst eu
  obtain ⟨t, rfl⟩ := rx
  refine PySem.call_list_str (I.ok.hd hc) z t (fun h' tk acc' c' hkeep hS hacc => ?_) hz
  refine ⟨.ref s.heap.objs.size, upd H s.heap.objs.size (.lst (z.cps.toList.map fun c => V.str ⟨#[c]⟩)), I.laid hkeep (Nat.le_refl _) (show ObjOk X.prog X.w _ _ _ (.lst (z.cps.toList.map fun c => V.str ⟨#[c]⟩)) from ⟨?_, acc'.toList, c', ?_, ?_⟩), rfl, q _ (I.hok.fresh (Nat.le_refl _))⟩
  · rw [List.length_map, Array.length_toList]; exact hz
  · have el : acc'.toList.length = acc'.size := by simp
    refine vals_of_at (by rw [List.length_map, el, hacc.1, Array.length_toList]) fun j x w h1 h2 => ?_
    have h3 := hacc.2 j w (by rw [← Array.getElem?_toList]; exact h2)
    obtain ⟨c, t', e1, rfl⟩ := h3
    rw [List.getElem?_map, Array.getElem?_toList, e1] at h1
    cases h1
    exact ⟨t', rfl⟩
  · rw [Array.toArray_toList]; exact hS
def listA : List D → Option D
  | [.lst xs] => some (.lst xs)
  | [.tup xs] => some (.lst xs)
  | [.str z] => if z.cps.size ≤ sizeLine then some (.lst (signsD z)) else none
  | _ => none
def rListA (X : Cx) : List V → Hp → VK → Prop := fun xs H Q => (∃ p ys, xs = [.ref p] ∧ (SqL X.K H p ys ∨ SqT X.K H p ys) ∧ ∀ l, H l = none → Q (.ref l) (upd H l (.lst ys))) ∨ rListT xs H Q
theorem call_listA (hc : X.calm = true) : CallR X (.type "list") (rListA X) := CallR.or call_list_of (call_list_text hc)
theorem signs_rep {K : PySem.W.Frag} {F : Hp} : ∀ l : List Nat, RepL K fa F (l.map fun c => D.str ⟨#[c]⟩) (l.map fun c => V.str ⟨#[c]⟩)
  | [] => .nil
  | c :: r => .cons (.str _) (signs_rep r)
theorem ok_listA : CallOk X fa (rListA X) listA := by
  intro F H s xs as Q h1 h2 r h
  cases r with
  | nil => exact h.elim
  | cons r t =>
    cases t with
    | cons _ _ => cases r <;> exact h.elim
    | nil =>
      cases r with
      | lst hq r => exact .inl ⟨_, _, rfl, .inl (SqL.of (h1 _ _ hq)), fun p hp => GoodO.new h1 h2 hp (.lst upd_same (r.mono (Ext.new (fa := fa) h1 hp).ff)) h⟩
      | tup hq r => exact .inl ⟨_, _, rfl, .inr (same_seqT h1 hq), fun p hp => GoodO.new h1 h2 hp (.lst upd_same (r.mono (Ext.new (fa := fa) h1 hp).ff)) h⟩
      | str z =>
        by_cases hz : z.cps.size ≤ sizeLine
        · rw [show listA [.str z] = some (.lst (signsD z)) from if_pos hz] at h
          exact .inr ⟨z, rfl, hz, fun p hp => GoodO.new h1 h2 hp (.lst upd_same (signs_rep _)) h⟩
        · rw [show listA [.str z] = none from if_neg hz] at h
          exact h.elim
      | _ => exact h.elim
def listNA : List D → Option (List D)
  | [.lst xs] => some xs
  | [.tup xs] => some xs
  | [.str z] => if z.cps.size ≤ sizeLine then some (signsD z) else none
  | _ => none
/-! ### sorted -/
def leS (a b : Str) : Bool := !ltCps b.cps.toList a.cps.toList
theorem leS_iff {a b : Str} : leS a b = true ↔ ¬ b.cps.toList < a.cps.toList := by
  unfold leS
  rw [ltCps_eq]
  simp
theorem leS_le {a b : Str} : leS a b = true ↔ a.cps.toList ≤ b.cps.toList := leS_iff.trans List.not_lt
theorem leS_trans {a b c : Str} (h1 : leS a b = true) (h2 : leS b c = true) : leS a c = true := leS_le.mpr (List.le_trans (leS_le.mp h1) (leS_le.mp h2))
theorem leS_total (a b : Str) : (leS a b || leS b a) = true := by
  rcases List.le_total a.cps.toList b.cps.toList with h | h
  · rw [leS_le.mpr h]; rfl
  · rw [leS_le.mpr h, Bool.or_true]
theorem leS_anti {a b : Str} (h1 : leS a b = true) (h2 : leS b a = true) : a = b := by
  have h := List.le_antisymm (leS_le.mp h1) (leS_le.mp h2)
  obtain ⟨⟨x⟩⟩ := a
  obtain ⟨⟨y⟩⟩ := b
  have h : x = y := h
  rw [h]
def sortS (xs : List Str) : List Str := xs.mergeSort leS
theorem pair_of_rising : ∀ (l : List Str) (p : Str), risingS p l = true → (p :: l).Pairwise fun a b => leS a b = true
  | [], p, _ => by simp
  | x :: r, p, h => by
    have h : (!ltCps x.cps.toList p.cps.toList && risingS x r) = true := h
    rw [Bool.and_eq_true] at h
    have ih := pair_of_rising r x h.2
    refine List.pairwise_cons.mpr ⟨fun y hy => ?_, ih⟩
    rcases List.mem_cons.mp hy with rfl | hy
    · exact h.1
    · exact leS_trans h.1 ((List.pairwise_cons.mp ih).1 y hy)
theorem pair_of_sorted : ∀ {l : List Str}, sortedS l = true → l.Pairwise fun a b => leS a b = true
  | [], _ => .nil
  | x :: r, h => pair_of_rising r x h
theorem sortS_pair (xs : List Str) : (sortS xs).Pairwise fun a b => leS a b = true := List.pairwise_mergeSort (le := leS) (fun _ _ _ => leS_trans) leS_total xs
theorem sortS_perm (xs : List Str) : (sortS xs).Perm xs := List.mergeSort_perm xs leS
theorem sortS_eq {xs ys : List Str} (hp : ys.Perm xs) (hs : sortedS ys = true) : ys = sortS xs :=
  List.Perm.eq_of_pairwise (le := fun a b => leS a b = true) (fun _ _ _ _ => leS_anti) (pair_of_sorted hs) (sortS_pair xs) (hp.trans (sortS_perm xs).symm)
def sortI (xs : List Int) : List Int := xs.mergeSort fun a b => decide (a ≤ b)
theorem sortI_pair (xs : List Int) : (sortI xs).Pairwise (· ≤ ·) := (List.pairwise_mergeSort (le := fun a b => decide (a ≤ b)) (fun a b c h1 h2 => by
  have a1 := of_decide_eq_true h1
  have a2 := of_decide_eq_true h2
  exact decide_eq_true (by omega)) (fun a b => by
  by_cases h : a ≤ b
  · simp [h]
  · have : b ≤ a := by omega
    simp [this]) xs).imp fun h => of_decide_eq_true h
theorem sortI_perm (xs : List Int) : (sortI xs).Perm xs := List.mergeSort_perm xs _
theorem sortI_eq {xs ys : List Int} (hp : ys.Perm xs) (hs : ys.Pairwise (· ≤ ·)) : ys = sortI xs :=
  List.Perm.eq_of_pairwise (le := (· ≤ ·)) (fun _ _ _ _ h1 h2 => by omega) hs (sortI_pair xs) (hp.trans (sortI_perm xs).symm)
def strsD : List D → Option (List Str)
  | [] => some []
  | .str i :: xs => (strsD xs).map fun r => i :: r
  | _ => none
theorem strsD_rep {K : PySem.W.Frag} {F : Hp} : ∀ {xs : List D} {vs : List V} {ns : List Str}, strsD xs = some ns → RepL K fa F xs vs → vs = ns.map V.str
  | _, _, _, h, .nil => by cases h; rfl
  | x :: xs, v :: vs, ns, h, .cons r t => by
    cases r with
    | str i =>
      rw [strsD] at h
      cases q : strsD xs with
      | none => rw [q] at h; cases h
      | some ms => rw [q] at h; cases h; rw [strsD_rep q t]; rfl
    | _ => cases h
theorem repL_strs {K : PySem.W.Frag} {F : Hp} : ∀ l : List Str, RepL K fa F (l.map D.str) (l.map V.str)
  | [] => .nil
  | c :: r => .cons (.str _) (repL_strs r)
def sortL (xs : List D) : Option (List D) := match strsD xs with
  | some ss => if ss.length < 64 then some ((sortS ss).map .str) else none
  | none => (intsD xs).map fun ns => (sortI ns).map .int
def sortedD : List D → Option D
  | [.lst xs] => (sortL xs).map .lst
  | _ => none
def rSortA (X : Cx) : List V → Hp → VK → Prop := fun xs H Q => rSortedS X.K xs H Q ∨ rSortedI X.K xs H Q
theorem cr_sortA : CallR X (.builtin "sorted") (rSortA X) := CallR.or cr_sortedS cr_sortedI
theorem ok_sorted : CallOk X fa (rSortA X) sortedD := by
  intro F H s xs as Q h1 h2 r h
  cases r with
  | nil => exact h.elim
  | cons r t =>
    cases t with
    | cons _ _ => cases r <;> exact h.elim
    | nil =>
      cases r with
      | @lst a xs vs hq r =>
        change GoodO X fa F H s ((sortL xs).map .lst) Q at h
        unfold sortL at h
        cases q : strsD xs with
        | some ss =>
          rw [q] at h
          by_cases hl : ss.length < 64
          · have h : GoodO X fa F H s (some (.lst ((sortS ss).map .str))) Q := by simpa [hl] using h
            have e := strsD_rep q r
            subst e
            refine .inl ⟨a, ss, rfl, SqL.of (h1 _ _ hq), hl, fun ys p hp hs hn => ?_⟩
            rw [sortS_eq hp hs]
            exact GoodO.new h1 h2 hn (.lst upd_same (repL_strs _)) h
          · have h : GoodO X fa F H s none Q := by simpa [hl] using h
            exact h.elim
        | none =>
          rw [q] at h
          change GoodO X fa F H s (((intsD xs).map fun ns => (sortI ns).map .int).map .lst) Q at h
          cases q2 : intsD xs with
          | none => rw [q2] at h; exact h.elim
          | some ns =>
            rw [q2] at h
            have e := intsD_rep q2 r
            subst e
            refine .inr ⟨a, ns, rfl, SqL.of (h1 _ _ hq), fun ys p hp hs hn => ?_⟩
            rw [sortI_eq hp hs]
            exact GoodO.new h1 h2 hn (.lst upd_same (RepL.ints _)) h
      | _ => exact h.elim
end
/-! ### names of the module -/
section
variable {X : Cx} {fa : Option FA} {W : L2.St → XK} {x : Str} {pos : Pos}
theorem ed_gstr {y : Str} (h : ∃ t, X.mg x = some (.str y t)) (hg : Gl X x := by rfl) (hd : (x == ("__debug__" : Str)) = false := by decide) : ED X fa W (.Name x pos) (dC (.str y)) := by
  obtain ⟨t, h⟩ := h
  exact ed_glob (.str y) (fun _ => .str y) h ⟨t, rfl⟩ hg hd
theorem ed_gint {y : Int} (h : ∃ t, X.mg x = some (.int y t)) (hg : Gl X x := by rfl) (hd : (x == ("__debug__" : Str)) = false := by decide) : ED X fa W (.Name x pos) (dC (.int y)) := by
  obtain ⟨t, h⟩ := h
  exact ed_glob (.int y) (fun _ => .int y) h ⟨t, rfl⟩ hg hd
end
end DL

set_option Elab.async false
set_option linter.all false
set_option maxRecDepth 100000
set_option maxHeartbeats 2000000
/-! The data layer: defs that hand on a new list, calls by keyword. -/
namespace DL
open PySem PySem.Spec PyProof.Rows L2
def GoodNK (K : PySem.W.Frag) (mg : Str → Option Value) (fa : Option FA) (F H : Hp) (r : Res (List D)) (Q : VK) : Prop :=
  match r with
  | .ok xs s' => ∀ p vs F' H', Ext fa F H F' H' → FeedOk K fa F' H' s' → H p = none → F' p = none → H' p = some (.lst vs) → RepL K fa F' xs vs → Q (.ref p) H'
  | _ => False
/-- the promise: no argument; a new list -/
def NewSp (K : PySem.W.Frag) (mg : Str → Option Value) (g : M (List D)) : Sp := fun vs H Q E =>
  vs = [] ∧ ∃ fa F s, Same F H ∧ FeedOk K fa F H s ∧ GoodNK K mg fa F H (g s) Q
structure CalN (P : Program) (w : World) (K : PySem.W.Frag) (mg : Str → Option Value) (base : Heap) (k : Nat) (x : Str) (g : M (List D)) : Prop where
  ex : ∃ f fd, FnOk P w K mg base (L2.CX P w) k f fd [] (NewSp K mg g) ∧ mg x = some (.ref f) ∧ PySem.W.keepIn K (.ref f) = true ∧ Binds K fd [] []
theorem passF {X : Cx} : Passes (L2.CX X.prog X.w) X (fun _ _ _ => False) := by
  intro pins σ H s e s' I c
  obtain ⟨_, _, _, _, _, _, _, _, _, _, _, _, h⟩ := c
  exact h.elim
section
variable {P : Program} {w : World} {K : PySem.W.Frag} {mg : Str → Option Value} {base : Heap}
theorem caln_of {x : Str} {st : Stmt} {k : Nat} {g : M (List D)} (D0 : Dff K mg x [] st) (h : ∀ f fd, Fun K x x st f fd → FnOk P w K mg base (L2.CX P w) k f fd [] (NewSp K mg g)) : CalN P w K mg base k x g := by
  obtain ⟨f, fd, F, hm, hb⟩ := D0.ex
  exact ⟨f, fd, h f fd F, hm, F.kp, hb⟩
theorem CalN.mono {x : Str} {j k : Nat} {g : M (List D)} (C : CalN P w K mg base j x g) (h : j ≤ k) : CalN P w K mg base k x g := by
  obtain ⟨f, fd, F, hm, hk, hb⟩ := C.ex
  exact ⟨f, fd, F.mono h, hm, hk, hb⟩
theorem fn_new {x qual : Str} {st : Stmt} {f : Addr} {fd : FuncData} {N : List Str} {k : Nat} {e : Expr} {pos : Pos} {g : Env' → M (List D)} (F : Fun K x qual st f fd) (S : FnScope N [] (defScope st)) (hst : defBody st = [.Return (some e) pos])
    (hbody : ∀ (cdv : Value) (A : Around) (outer : List Env) (s : Shared) (H : Hp) (E : XK) (fa : Option FA), Room k (A.deeper (envOfC qual (defScope st) s.heap.objs.size f cdv)) →
      ND (cxOf (L2.CX P w) P w K mg base N qual (defScope st) f cdv A outer s H E) fa (fun _ => E) e g) :
    FnOk P w K mg base (L2.CX P w) (k + 1) f fd [] (NewSp K mg (M.quiet (g []))) := by
  refine F.okX S (fun vs H Q E h => by rw [h.1]; rfl) fun cdv A outer s H vs Q E hr h => ?_
  obtain ⟨rfl, fa, Fz, fs, h1, h2, gd⟩ := h
  obtain ⟨t, p, kk⟩ := hbody cdv A outer s H E fa hr
  refine ⟨_, by rw [hst]; exact pss_one (ps_ret p), ?_⟩
  refine kk _ Fz H [] fs Q h1 h2 ⟨Nat.zero_le _, fun i d hi => by simp at hi⟩ ?_
  unfold M.quiet at gd
  cases q : g [] fs with
  | bad => rw [q] at gd; exact gd.elim
  | err e s' => rw [q] at gd; exact gd.elim
  | ok xs s' => rw [q] at gd; exact gd
section
variable {X : Cx} {fa : Option FA} {W : L2.St → XK} {e : Expr} {es : List Expr} {kws : List Keyword} {p pos : Pos} {f1 : Env' → M D} {fl fk : Env' → M (List D)}
theorem nd_cal0 {k : Nat} {g : M (List D)} {x : Str} (C : CalN X.prog X.w X.K X.mg X.base k x g) (hr : Room k X.A) (hg : Gl X x := by rfl) (hdb : (x == ("__debug__" : Str)) = false := by decide) : ND X fa W (.Call (.Name x p) [] [] pos) (fun _ => M.quiet g) := by
  obtain ⟨f, fd, F, hm, hk, hb⟩ := C.ex
  refine ⟨_, pe_call0 F hr hg hm hk hb .nil passF hdb, fun σ F H ρ s Q h1 h2 h3 h => ?_⟩
  refine ⟨rfl, fa, F, s, h1, h2, ?_⟩
  unfold M.quiet at h
  dsimp only at h
  cases q : g s with
  | bad => rw [q] at h; exact h.elim
  | err e s' => rw [q] at h; exact h.elim
  | ok d s' => rw [q] at h; exact h
/-! ### keywords -/
/-- the values of keywords -/
def KD (X : Cx) (fa : Option FA) (W : L2.St → XK) (ks : List Keyword) (f : Env' → M (List D)) : Prop := ∃ t, PK X ks t ∧ TLOk X fa W t f
theorem kd_nil : KD X fa W [] lNil := ⟨_, pk_nil, fun σ F H ρ s Q h1 h2 h3 h => h [] F H (Ext.refl h1) h2 .nil⟩
theorem kd_cons {nm : Option Str} {kpos : Pos} (h : ED X fa W e f1) (hk : KD X fa W kws fk) : KD X fa W (⟨nm, e, kpos⟩ :: kws) (lCons f1 fk) := by
  obtain ⟨t1, p1, k1⟩ := h
  obtain ⟨t2, p2, k2⟩ := hk
  refine ⟨_, pk_cons p1 p2, fun σ F H ρ s Q h1 h2 h3 h => ?_⟩
  refine k1.then GoodL.tgt h1 h2 h3 h fun x s1 v F1 H1 e1 o1 r1 v1 h' => ?_
  refine k2.then GoodL.tgt e1.fh o1 v1 h' fun xs s2 vs F2 H2 e2 o2 r2 v2 h'' => ?_
  exact h'' (v :: vs) F2 H2 (Ext.refl e2.fh) o2 (.cons (r1.mono e2.ff) r2)
/-- n arguments in order, the rest by keyword -/
def gN {α : Type} (n : Nat) (us ws : List α) : List α := if us.length = n then us ++ ws else []
/-- a def of the text stands there; behind n arguments the rest may be given by keyword -/
structure Kff (K : PySem.W.Frag) (mg : Str → Option Value) (x : Str) (ps : List Str) (n : Nat) (ks : List Str) (st : Stmt) : Prop where
  ex : ∃ f fd, Fun K x x st f fd ∧ mg x = some (.ref f) ∧ KBinds K fd ps ks (gN n) (gN n)
structure Kal (P : Program) (w : World) (K : PySem.W.Frag) (mg : Str → Option Value) (base : Heap) (k : Nat) (x : Str) (ps : List Str) (n : Nat) (ks : List Str) (g : List D → M D) : Prop where
  ex : ∃ f fd, FnOk P w K mg base (L2.CX P w) k f fd ps (DSp K mg g) ∧ mg x = some (.ref f) ∧ PySem.W.keepIn K (.ref f) = true ∧ KBinds K fd ps ks (gN n) (gN n)
theorem kal_of {x : Str} {ps ks : List Str} {n : Nat} {st : Stmt} {k : Nat} {g : List D → M D} (D0 : Kff K mg x ps n ks st) (h : ∀ f fd, Fun K x x st f fd → FnOk P w K mg base (L2.CX P w) k f fd ps (DSp K mg g)) : Kal P w K mg base k x ps n ks g := by
  obtain ⟨f, fd, F, hm, hb⟩ := D0.ex
  exact ⟨f, fd, h f fd F, hm, F.kp, hb⟩
theorem vals_app : ∀ {vs zs : List V} {us ws : List Value}, Vals vs us → Vals zs ws → Vals (vs ++ zs) (us ++ ws)
  | _, _, _, _, .nil, h => h
  | _, _, _, _, .cons r t, h => .cons r (vals_app t h)
theorem kff_mk {x : Str} {ps ks : List Str} {n : Nat} {st : Stmt} {f : Addr} {oc : Value} {od an : Option Addr} {osl : Array (Option Value)} {kV doc pm cdv ct : Value} {h : Heap} (X : K.In h) (G : h.Ns mainGlobals mg)
    (a : PySem.W.nsIn K mainGlobals x = some (some (.ref f))) (l : K.lookup f = some ⟨oc, od, .func (PySem.W.fnOf x x (defArgs st) (defBody st) (defScope st) .none kV doc pm an cdv ct), osl⟩) (c : PySem.W.codeIn K cdv x = true) (kp : PySem.W.keepIn K (.ref f) = true) (hp : 0 < ps.length)
    (hb : ∀ (kV doc pm : Value) (an : Option Addr) (cdv ct : Value) (us ws : List Value), us.length = n → us.length + ws.length = ps.length → bindArgs (PySem.W.fnOf x x (defArgs st) (defBody st) (defScope st) .none kV doc pm an cdv ct) ⟨us, ks.zip ws⟩ = pure (ps.zip (us ++ ws))) : Kff K mg x ps n ks st := by
  refine ⟨f, _, fun_mk (st := st) l c kp, PySem.W.mg_of X G a, ⟨fun s us ws _ hl => ?_, fun {vs us zs ws} r r2 => ?_⟩⟩
  · by_cases hu : us.length = n
    · unfold gN at hl ⊢
      rw [if_pos hu] at hl ⊢
      exact .of_eq (hb _ _ _ _ _ _ us ws hu (by rw [← hl, List.length_append]))
    · unfold gN at hl
      rw [if_neg hu] at hl
      have : ps.length = 0 := hl.symm
      omega
  · unfold gN
    rw [r.length]
    split
    · exact vals_app r r2
    · exact .nil
/-- f(k = v, ..) -/
theorem pe_callK0 {CX : CXT} {k : Nat} {f : Addr} {fd : FuncData} {ps ks : List Str} {sp : Sp} {E : XK} {tk : TA} {g : List Value → List Value → List Value} {gV : List V → List V → List V} {x : Str} (F : FnOk X.prog X.w X.K X.mg X.base CX k f fd ps sp) (hr : Room k X.A) (hg : Gl X x) (hm : X.mg x = some (.ref f)) (hk : PySem.W.keepIn X.K (.ref f) = true) (hb : KBinds X.K fd ps ks g gV) (hx : Passes CX X E)
    (hkw : PK X kws tk) (hall : (backToKw pos (keywordEach kws X.env)).all (·.1.isSome) = true := by rfl) (hks : (backToKw pos (keywordEach kws X.env)).filterMap (·.1) = ks := by rfl)
    (hdb : (x == ("__debug__" : Str)) = false := by decide) (hpl : ((backTo pos (starEach [] X.env)).any (·.1) || (backToKw pos (keywordEach kws X.env)).any (·.1.isNone)) = false := by rfl) :
    PE X (.Call (.Name x p) [] kws pos) (tCallK sp gV E tNil tk) := by
  refine ⟨fun pins s σ H Q I h => ?_⟩
  refine wpAny_Call_Name_kw (ld_glob I hg hm ?_ hdb)
  refine PySem.W.callWith_KW0 (h₀ := X.base) I.ok.mod.kin hk hall ?_ hpl
  refine thn (hkw.run pos pins s σ H _ I h) fun ws s2 ⟨zs, H2, I2, rz, q2⟩ => ⟨I2.kIn, ?_⟩
  rw [hks]
  exact run_fnk (us := []) (vs := []) F hr hb hx I2 .nil rz q2
/-- f(k = v, ..): a def that raises nothing here -/
theorem ed_kal0 {k : Nat} {g : List D → M D} {x : Str} {ps ks : List Str} (C : Kal X.prog X.w X.K X.mg X.base k x ps 0 ks g) (hr : Room k X.A) (ha : KD X fa W kws fk) (hg : Gl X x := by rfl)
    (hall : (backToKw pos (keywordEach kws X.env)).all (·.1.isSome) = true := by rfl) (hks : (backToKw pos (keywordEach kws X.env)).filterMap (·.1) = ks := by rfl)
    (hdb : (x == ("__debug__" : Str)) = false := by decide) (hpl : ((backTo pos (starEach [] X.env)).any (·.1) || (backToKw pos (keywordEach kws X.env)).any (·.1.isNone)) = false := by rfl) :
    ED X fa W (.Call (.Name x p) [] kws pos) (dCall (fun ds => M.quiet (g ds)) fk) := by
  obtain ⟨f, fd, F, hm, hk, hb⟩ := C.ex
  obtain ⟨t, pk, kk⟩ := ha
  refine ⟨_, pe_callK0 F hr hg hm hk hb passF pk hall hks hdb hpl, fun σ F H ρ s Q h1 h2 h3 h => ?_⟩
  refine kk.then Good.tgt h1 h2 h3 h fun xs s1 vs F1 H1 e1 o1 r1 v1 h' => ?_
  refine ⟨fa, F1, s1, xs, e1.fh, o1, r1, ?_⟩
  change Good X fa (W σ) F1 H1 (M.quiet (g xs) s1) Q at h'
  unfold M.quiet at h'
  cases q : g xs s1 with
  | bad => rw [q] at h'; exact h'
  | err e s' => rw [q] at h'; exact h'.elim
  | ok d s' => rw [q] at h'; exact h'
end
end
end DL

set_option Elab.async false
set_option linter.all false
set_option maxRecDepth 100000
set_option maxHeartbeats 2000000
/-! The data layer: a text some times; list(x), new. -/
namespace DL
open PySem PySem.Spec PyProof.Rows L2
def mulS (x : Str) (n : Int) : Str := if n < 1 then Str.empty else if (n == 1 || x.length == 0) = true then x else ⟨(List.replicate n.toNat x.cps).foldl (· ++ ·) #[]⟩
def mulSD : D → D → Option D
  | .str x, .int n => if -1000 ≤ n ∧ n ≤ 1000 ∧ x.length ≤ 1000 ∧ (mulS x n).length ≤ sizeLine then some (.str (mulS x n)) else none
  | _, _ => none
section
variable {X : Cx} {fa : Option FA} {W : L2.St → XK}
def rMulS : R2 := fun x y H Q => ∃ z n, x = .str z ∧ y = .int n ∧ (-1000 ≤ n ∧ n ≤ 1000 ∧ z.length ≤ 1000 ∧ (mulS z n).length ≤ sizeLine) ∧ Q (.str (mulS z n)) H
theorem op_mulS : OpR X (binaryOp .Mult) rMulS := by
  intro pins s σ H x y v u Q I rx ry h
  obtain ⟨z, n, rfl, rfl, ⟨h1, h2, h3, h4⟩, q⟩ := h
  obtain ⟨t, rfl⟩ := rx
  obtain ⟨t', rfl⟩ := ry
  refine PySem.P.mul_str ?_ ?_ ?_ ?_
  · rw [decide_eq_false (by omega), decide_eq_false (by omega)]; rfl
  · intro h5 _ h6
    have : (1000 : Int) ≤ (2 ^ 63 - 1) / n := by
      rw [Int.le_ediv_iff_mul_le (by omega)]
      omega
    omega
  · intro h5 _
    unfold Builtin.Str.tooLong
    have hz : sizeLine = 16777216 := rfl
    refine decide_eq_false ?_
    have : z.length * n.toNat ≤ 1000 * 1000 := Nat.mul_le_mul h3 (by omega)
    rw [hz]
    omega
  · unfold mulS at h4 q
    by_cases h5 : n < 1
    · rw [if_pos h5] at h4 q ⊢
      exact ⟨h4, .str Str.empty, H, I.tok _, ⟨_, rfl⟩, q⟩
    · rw [if_neg h5] at h4 q ⊢
      by_cases h6 : (n == 1 || z.length == 0) = true
      · rw [if_pos h6] at h4 q ⊢
        exact ⟨.str z, H, I, ⟨_, rfl⟩, q⟩
      · rw [if_neg h6] at h4 q ⊢
        exact ⟨h4, .str _, H, I.tok _, ⟨_, rfl⟩, q⟩
theorem ok_mulS : OpOk X fa rMulS mulSD := by
  intro F H s x y a b Q h1 h2 ra rb h
  cases ra with
  | str z =>
    cases rb with
    | int n =>
      by_cases hl : -1000 ≤ n ∧ n ≤ 1000 ∧ z.length ≤ 1000 ∧ (mulS z n).length ≤ sizeLine
      · rw [show mulSD (.str z) (.int n) = some (.str (mulS z n)) from if_pos hl] at h
        exact ⟨z, n, rfl, rfl, hl, GoodO.here h1 h2 (.str _) h⟩
      · rw [show mulSD (.str z) (.int n) = none from if_neg hl] at h
        exact h.elim
    | _ => exact h.elim
  | _ => cases rb <;> exact h.elim
variable {e : Expr} {p pos : Pos} {fl : Env' → M (List D)}
theorem nd_listA {x : Str} (hm : X.mg x = none) (hc : X.calm = true) (ha : LD X fa W [e] fl) (hv : bootBuiltins x = some (.type "list") := by decide +kernel) (hg : Gl X x := by rfl) (hn : x ≠ "__name__" := by decide) (hdb : (x == ("__debug__" : Str)) = false := by decide) (he : starEach [e] X.env = (false, eval e X.env) :: starEach [] X.env := by rfl) (hpl : (backTo pos (starEach [] X.env)).any (·.1) = false := by rfl) :
    ND X fa W (.Call (.Name x p) [e] [] pos) (fun ρ => (fl ρ).bind fun xs => M.lift (listNA xs)) := by
  obtain ⟨ta, pa, ka⟩ := ha
  refine ⟨_, pe_callTy (call_listA hc) hg hm hv pa hn hdb he hpl, fun σ F H ρ s Q h1 h2 h3 h => ?_⟩
  refine ka.then GoodN.tgt h1 h2 h3 h fun xs s1 vs F1 H1 e1 o1 r1 v1 h' => ?_
  have fin : ∀ (us : List V) (ds : List D), RepL X.K fa F1 ds us → GoodN X fa (W σ) F1 H1 (.ok ds s1) Q → ∀ l, H1 l = none → Q (.ref l) (upd H1 l (.lst us)) := fun us ds rl hg l hl => by
    have fl : F1 l = none := Same.free e1.fh hl
    refine hg l us F1 (upd H1 l (.lst us)) ⟨Same.refl _, fun b u z => ?_, fun b u z _ => ?_, fun _ _ => rfl, fun b z => ?_⟩ (o1.ext_same (Same.refl _) (fun b u z => by rw [upd_ne (ne_of_none z hl)]; exact z) fun _ _ => rfl) hl fl upd_same rl
    · rw [upd_ne (ne_of_none z fl)]; exact e1.fh b u z
    · rw [upd_ne (ne_of_none z hl)]; exact z
    · have : b ≠ l := fun q => z (q ▸ hl)
      rw [upd_ne this]; exact z
  cases r1 with
  | nil => exact h'.elim
  | cons r t =>
    cases t with
    | cons _ _ => cases r <;> exact h'.elim
    | nil =>
      cases r with
      | lst hq r => exact .inl ⟨_, _, rfl, .inl (SqL.of (e1.fh _ _ hq)), fin _ _ r h'⟩
      | tup hq r => exact .inl ⟨_, _, rfl, .inr (same_seqT e1.fh hq), fin _ _ r h'⟩
      | str z =>
        by_cases hz : z.cps.size ≤ sizeLine
        · have h' : GoodN X fa (W σ) F1 H1 (M.lift (listNA [.str z]) s1) Q := h'
          rw [show listNA [.str z] = some (signsD z) from if_pos hz] at h'
          exact .inr ⟨z, rfl, hz, fin _ _ (signs_rep _) h'⟩
        · have h' : GoodN X fa (W σ) F1 H1 (M.lift (listNA [.str z]) s1) Q := h'
          rw [show listNA [.str z] = none from if_neg hz] at h'
          exact h'.elim
      | _ => exact h'.elim
end
end DL

set_option Elab.async false
set_option linter.all false
set_option maxRecDepth 100000
set_option maxHeartbeats 2000000
/-! The data layer: cuts, texts. -/
namespace DL
open PySem PySem.Spec PyProof.Rows L2
theorem sIx_pos {n d : Nat} {v : Int} (h : 0 ≤ v) : HT.sIx n d (some v) = min v.toNat n := by
  unfold HT.sIx
  exact if_neg (by omega)
theorem take_min {α : Type} (xs : List α) (k : Nat) : xs.take (min k xs.length) = xs.take k := by
  rcases Nat.le_total k xs.length with h | h
  · rw [Nat.min_eq_left h]
  · rw [Nat.min_eq_right h, List.take_of_length_le (Nat.le_refl _), List.take_of_length_le h]
theorem drop_min {α : Type} (xs : List α) (k : Nat) : xs.drop (min k xs.length) = xs.drop k := by
  rcases Nat.le_total k xs.length with h | h
  · rw [Nat.min_eq_left h]
  · rw [Nat.min_eq_right h, List.drop_of_length_le (Nat.le_refl _), List.drop_of_length_le h]
theorem cut_hi {α : Type} (xs : List α) {v : Int} (h : 0 ≤ v) : (xs.drop (HT.sIx xs.length 0 none)).take (HT.sIx xs.length xs.length (some v) - HT.sIx xs.length 0 none) = xs.take v.toNat := by
  rw [sIx_pos h, HT.sIx_none, List.drop_zero, Nat.sub_zero, take_min]
theorem cut_lo {α : Type} (xs : List α) {v : Int} (h : 0 ≤ v) : (xs.drop (HT.sIx xs.length 0 (some v))).take (HT.sIx xs.length xs.length none - HT.sIx xs.length 0 (some v)) = xs.drop v.toNat := by
  rw [sIx_pos h, HT.sIx_none, drop_min]
  refine List.take_of_length_le ?_
  rw [List.length_drop]
  omega
section
variable {s : FS} {Q : D → FS → Prop} {v : Int}
theorem Rm.slLhi {xs : List D} (h : 0 ≤ v) (q : Q (.lst (xs.take v.toNat)) s) : Rm (M.lift (slD (.lst xs) none (some v))) s Q := Rm.lift (congrArg (fun l => some (D.lst l)) (cut_hi xs h)) q
theorem Rm.slLlo {xs : List D} (h : 0 ≤ v) (q : Q (.lst (xs.drop v.toNat)) s) : Rm (M.lift (slD (.lst xs) (some v) none)) s Q := Rm.lift (congrArg (fun l => some (D.lst l)) (cut_lo xs h)) q
theorem Rm.slThi {xs : List D} (h : 0 ≤ v) (q : Q (.tup (xs.take v.toNat)) s) : Rm (M.lift (slD (.tup xs) none (some v))) s Q := Rm.lift (congrArg (fun l => some (D.tup l)) (cut_hi xs h)) q
theorem Rm.slTlo {xs : List D} (h : 0 ≤ v) (q : Q (.tup (xs.drop v.toNat)) s) : Rm (M.lift (slD (.tup xs) (some v) none)) s Q := Rm.lift (congrArg (fun l => some (D.tup l)) (cut_lo xs h)) q
theorem Rm.slS {z : Str} {lo hi : Option Int} (h : z.length ≤ sizeLine) (q : Q (.str (cutS z lo hi)) s) : Rm (M.lift (slD (.str z) lo hi)) s Q := Rm.lift (if_pos h) q
theorem Rm.adds {a b : Str} (h : a.length + b.length ≤ sizeLine) (q : Q (.str (a ++ b)) s) : Rm (M.lift (addD (.str a) (.str b))) s Q := Rm.lift (if_pos h) q
theorem Rm.lenS {z : Str} (h : z.length ≤ sizeLine) (q : Q (.int z.length) s) : Rm (M.lift (lenD [.str z])) s Q := Rm.lift (if_pos h) q
theorem cutS_len (z : Str) (lo hi : Option Int) : (cutS z lo hi).length ≤ z.length := by
  unfold cutS
  show (List.toArray _).size ≤ z.cps.size
  rw [List.size_toArray]
  refine Nat.le_trans (List.length_take_le' _ _) ?_
  rw [List.length_drop, Array.length_toList]
  omega
theorem strApp_len (a b : Str) : (a ++ b).length = a.length + b.length := by
  show (a.cps ++ b.cps).size = a.cps.size + b.cps.size
  rw [Array.size_append]
end
section
variable {ρ : Env'} {s : FS} {f1 f2 f3 : Env' → M D} {g g' : D → D → Option D} {Q : D → FS → Prop} {QB : Bool → FS → Prop}
def Rm.chainK (g' : D → D → Option D) (f3 : Env' → M D) (ρ : Env') (y : D) (k : Bool) : M D := if k = true then (f3 ρ).bind fun w => M.lift (g' y w) else M.pure (.bl false)
theorem Rm.chain (h : Rm (f1 ρ) s fun x s => Rm (f2 ρ) s fun y s => Rm (M.lift (g x y)) s fun z s => Rm (M.lift (blD z)) s fun k s => Rm (Rm.chainK g' f3 ρ y k) s Q) : Rm (dChain g g' f1 f2 f3 ρ) s Q :=
  Rm.bind (h.mono fun _ _ h => Rm.bind (h.mono fun _ _ h => Rm.bind (h.mono fun _ _ h => Rm.bind h)))
theorem Rm.chainT {y : D} {k : Bool} (e : k = true) (h : Rm (f3 ρ) s fun w s => Rm (M.lift (g' y w)) s Q) : Rm (Rm.chainK g' f3 ρ y k) s Q := by
  subst e
  exact Rm.bind h
theorem Rm.chainF {y : D} {k : Bool} (e : k = false) (h : Q (.bl false) s) : Rm (Rm.chainK g' f3 ρ y k) s Q := by
  subst e
  exact ⟨h⟩
theorem Rm.chainC {y : D} {k : Bool} (h1 : k = true → Rm (f3 ρ) s fun w s => Rm (M.lift (g' y w)) s Q) (h2 : k = false → Q (.bl false) s) : Rm (Rm.chainK g' f3 ρ y k) s Q := by
  cases k with
  | true => exact Rm.bind (h1 rfl)
  | false => exact ⟨h2 rfl⟩
theorem Rm.cchain (h : Rm (dChain g g' f1 f2 f3 ρ) s fun z s => Rm (M.lift (blD z)) s QB) : Rm (cChain g g' f1 f2 f3 ρ) s QB := Rm.bind h
end
theorem bls_map {α : Type} (p : α → Bool) : ∀ xs : List α, blsD (xs.map fun x => D.bl (p x)) = some (xs.map p)
  | [] => rfl
  | x :: xs => by
    show (blsD (xs.map fun x => D.bl (p x))).map _ = _
    rw [bls_map p xs]
    rfl
theorem all_map {α : Type} (p : α → Bool) (xs : List α) : allD [.lst (xs.map fun x => D.bl (p x))] = some (.bl (xs.all p)) := by
  show (blsD _).map _ = _
  rw [bls_map]
  show some (D.bl ((xs.map p).all id)) = _
  rw [List.all_map]
  rfl
section
variable {ρ : Sts} {s : FS} {f : Env' → M D} {fl : Env' → M (List D)} {Q : Fl × Sts → FS → Prop} {i : Nat}
theorem Rm.setM (h : Rm (f (mask ρ)) s fun x s => Q (.nx, ρ.set i (.d x)) s) : Rm (gSet i (vMask f) ρ) s Q := Rm.set (Rm.vmask h)
theorem Rm.setV (h : Rm (f (view ρ)) s fun x s => Rm (M.lift (scalD x)) s fun x s => Q (.nx, ρ.set i (.d x)) s) : Rm (gSet i (vView f) ρ) s Q := Rm.set (Rm.vview h)
theorem Rm.setN (h : Rm (fl (mask ρ)) s fun x s => Q (.nx, ρ.set i (.ol x)) s) : Rm (gSet i (vNew fl) ρ) s Q := Rm.set (Rm.vnew h)
theorem Rm.mulSp {x : Str} {n : Int} {Q : D → FS → Prop} (h : -1000 ≤ n ∧ n ≤ 1000 ∧ x.length ≤ 1000 ∧ (mulS x n).length ≤ sizeLine) (q : Q (.str (mulS x n)) s) : Rm (M.lift (mulSD (.str x) (.int n))) s Q := Rm.lift (if_pos h) q
end
end DL

set_option Elab.async false
set_option linter.all false
set_option maxRecDepth 100000
set_option maxHeartbeats 2000000
/-! The data layer: the keys of a dict, walked; copies of dicts. -/
namespace DL
open PySem PySem.Spec PyProof.Rows L2
def IOkP (Pre : Hp → L2.St → Prop) (X : Cx) (fa : Option FA) (W : L2.St → XK) (wi : TI) (f : Env' → M (List D)) : Prop :=
  ∀ (σ : L2.St) (F H : Hp) (ρ : Env') (s : FS) (R : It → Hp → Prop), Pre F σ → Same F H → FeedOk X.K fa F H s → EnvOk X.K fa F σ ρ → GoodI X fa (W σ) F H (f ρ s) R → wi σ H R
def NOkP (Pre : Hp → L2.St → Prop) (X : Cx) (fa : Option FA) (W : L2.St → XK) (t : TE) (f : Env' → M (List D)) : Prop :=
  ∀ (σ : L2.St) (F H : Hp) (ρ : Env') (s : FS) (Q : VK), Pre F σ → Same F H → FeedOk X.K fa F H s → EnvOk X.K fa F σ ρ → GoodN X fa (W σ) F H (f ρ s) Q → t σ H Q
section
variable {X : Cx} {fa : Option FA} {Wσ : L2.St → XK}
theorem nok_lcP {Pre : Hp → L2.St → Prop} {tg iter elt : Expr} {it : Env' → M (List D)} {b : D → Option Asg} {c : Env' → M Bool} {f : Env' → M D} {wi : TI} {vs ns : List Nat} (ki : IOkP Pre X fa Wσ wi it) (hin : ∀ n ∈ ns, n ∈ vs) (hni : ∀ n ∈ vs, n ∈ ns) :
    NOkP Pre X fa Wσ (tLc wi (gStar X ns b) (tStarB X fa Wno c) (tStar X fa Wno f) vs) (dLc it b c f) := by
  intro σ F H ρ s Q hp h1 h2 h3 hg
  refine ki σ F H ρ s _ hp h1 h2 h3 ?_
  change GoodN X fa (Wσ σ) F H ((it ρ s).bnd _) Q at hg
  generalize it ρ s = r at hg
  cases r with
  | bad => exact hg
  | err e s' => exact hg
  | ok xs s0 =>
    intro J F1 H1 e1 o1 wj D' hD
    change GoodN X fa (Wσ σ) F H ((if xs.length ≤ sizeLine then M.quiet (lcE b c f xs ρ) else M.bad) s0) Q at hg
    by_cases hl : xs.length ≤ sizeLine
    · rw [if_pos hl] at hg
      obtain ⟨ys, s9, hys, hg⟩ := quiet_ok (P := fun r => GoodN X fa (Wσ σ) F H r Q) (fun z => z) hg
      obtain ⟨G, Y, wk, hG, hY⟩ := wj.ex
      have nf : Nfa fa D' := nfa_fresh o1 hD
      have fD : F1 D' = none := Same.free e1.fh hD
      have C0 : CSt X fa F1 H1 D' F1 (upd H1 D' (.lst [])) [] s0 := by
        refine ⟨⟨Same.refl _, fun b u z => ?_, fun b u z _ => ?_, fun _ _ => rfl, fun b z => ?_⟩, fun φ q => ?_, fD, hD, nf, [], upd_same, .nil⟩
        · rw [upd_ne (ne_of_none z fD)]; exact e1.fh b u z
        · rw [upd_ne (ne_of_none z hD)]; exact z
        · have : b ≠ D' := fun q => z (q ▸ hD)
          rw [upd_ne this]; exact z
        · obtain ⟨g1, g2, g3, g4⟩ := o1 φ q
          exact ⟨g1, g2, ⟨by rw [upd_ne (nf φ q).1]; exact g3.1, g3.2.updN hD⟩, g4⟩
      refine lc_it wk (fun i H' => ∃ F' acc s' zs, CSt X fa F1 H1 D' F' H' acc s' ∧ lcE b c f (xs.drop i) ρ s' = .ok zs s9 ∧ acc ++ zs = ys ∧ acc.length ≤ i) ⟨F1, [], s0, ys, C0, hys, rfl, Nat.zero_le _⟩ ?_ ?_ ?_
      · rintro i H' _ ⟨F', acc, s', zs, C, _⟩
        exact hG F' H' C.ext.ff C.ext.fh
      · rintro i x H' H3 hi ⟨F', acc, s', zs, C, hz, ha, hlen⟩ y
        have hx : xs[i]? = some xs[i] := List.getElem?_eq_getElem hi
        obtain ⟨F3, a1, a2, a3, a4, r⟩ := hY i _ F' H' x H3 hx C.ext.ff C.ext.fh y
        have C3 := C.step (ext_same a1 a2 a3 a4) (C.fd.ext_same a1 a3 a4)
        rw [List.drop_eq_getElem_cons hi] at hz
        change ((M.lift (b xs[i]) s').bnd _) = _ at hz
        obtain ⟨as, s1, hb0, hz1⟩ := bnd_ok hz
        obtain ⟨hb, es1⟩ := lift_ok hb0
        rw [es1] at hz1
        change ((c (setE as ρ) s').bnd _) = _ at hz1
        obtain ⟨k, s2, hc, hz2⟩ := bnd_ok hz1
        refine lc_turn C3 (h3.mono (e1.ff.trans (C.ext.ff.trans a1))) r hb hc hin hni fun σ2 F4 H4 C4 e34 en2 en hw => ?_
        cases k with
        | false =>
          refine iteF ⟨F4, acc, s2, zs, C4, ?_, ha, by omega⟩
          rw [if_neg Bool.false_ne_true] at hz2
          exact hz2
        | true =>
          rw [if_pos rfl] at hz2
          change ((f (setE as ρ) s2).bnd _) = _ at hz2
          obtain ⟨y', s3, hf, hz3⟩ := bnd_ok hz2
          change ((lcE b c f (xs.drop (i + 1)) ρ s3).bnd _) = _ at hz3
          obtain ⟨zs', s4, hz4, hq⟩ := bnd_ok hz3
          cases hq
          refine iteT ⟨F4, setE as ρ, s2, C4.ext.fh, C4.fd, en2, ?_⟩
          rw [hf]
          intro w F5 H5 e5 o5 r5
          have C5 := C4.step e5 o5
          obtain ⟨av, hD5, rl⟩ := id C5.at_
          refine ⟨av, hD5, by rw [← rl.length]; omega, F5, acc ++ [y'], s3, zs', C5.add hD5 r5, hz4, by rw [List.append_assoc]; exact ha, by simp; omega⟩
      · rintro H' ⟨F', acc, s', zs, C, hz, ha, hlen⟩
        rw [List.drop_length] at hz
        cases hz
        rw [List.append_nil] at ha
        subst ha
        obtain ⟨av, hD', rl⟩ := C.at_
        refine hg D' av F' H' (e1.trans C.ext) C.fd ?_ C.fD hD' rl
        cases z : H D' with
        | none => rfl
        | some u => exact absurd hD (e1.al D' (by rw [z]; simp))
    · rw [if_neg hl] at hg
      exact hg.elim

/-- the dict at slot i stands locked -/
def LockAt (i : Nat) (F : Hp) (σ : L2.St) : Prop := ∃ d o vs, σ[i]? = some (some (.ref d)) ∧ F d = some (.frz o (.dK vs))
def keyV : Key → D
  | .inl i => .int i
  | .inr x => .str x
def keysD (i : Nat) : Env' → M (List D) := fun ρ => match ρ[i]?.join with
  | some (.dic kvs) => M.pure (kvs.map fun kv => keyV kv.1)
  | _ => M.bad
theorem repK_get {K : PySem.W.Frag} {F : Hp} : ∀ {ds : List (Key × D)} {vs : List (Key × V)} {i : Nat} {k : Key} {v : V}, RepK K fa F ds vs → vs[i]? = some (k, v) → ∃ d, ds[i]? = some (k, d) ∧ Rep K fa F d v
  | _, _, i, _, _, .nil, h => by simp at h
  | _, _, 0, _, _, .cons r _, h => by simp at h; obtain ⟨rfl, rfl⟩ := h; exact ⟨_, rfl, r⟩
  | _, _, i + 1, k, v, .cons _ t, h => by
    obtain ⟨d, e, r⟩ := repK_get (i := i) t (by simpa using h)
    exact ⟨d, by simpa using e, r⟩
theorem repK_len {K : PySem.W.Frag} {F : Hp} : ∀ {ds : List (Key × D)} {vs : List (Key × V)}, RepK K fa F ds vs → ds.length = vs.length
  | _, _, .nil => rfl
  | _, _, .cons _ t => congrArg (· + 1) (repK_len t)
theorem iok_keys {i : Nat} : IOkP (LockAt i) X fa Wσ (iKeys (tVar i)) (keysD i) := by
  intro σ F H ρ s R hp h1 h2 h3 hg
  obtain ⟨d, o, vs, hσ, hF⟩ := hp
  refine ⟨.ref d, hσ, d, o, rfl, .inl ⟨vs, h1 _ _ hF, ?_⟩⟩
  unfold keysD at hg
  cases q : ρ[i]?.join with
  | none => rw [q] at hg; exact hg.elim
  | some x =>
    rw [q] at hg
    obtain ⟨v, hv, r⟩ := h3.at_ i x (by
      cases z : ρ[i]? with
      | none => rw [z] at q; cases q
      | some u => rw [z] at q; cases u with
        | none => cases q
        | some y => cases q; rfl)
    rw [hσ] at hv
    cases hv
    cases r with
    | @dic _ xs vs' hd rk =>
      have e : vs' = vs := by
        rcases hd with hd | ⟨o', hd⟩
        · rw [hF] at hd; cases hd
        · rw [hF] at hd; cases hd; rfl
      subst e
      refine hg _ F H (Ext.refl h1) h2 (wj_here (G := fun H => H d = some (.frz o (.dK vs'))) (Y := fun i H x H' => H' = H ∧ ∃ k v, vs'[i]? = some (k, v) ∧ x = kV k) ?_ ?_ ?_)
      · rw [List.length_map, repK_len rk]
        exact walk_keys
      · exact fun F2 H2 a1 a2 => a2 _ _ (a1 _ _ hF)
      · rintro j x F2 H2 v H3 hx a1 a2 ⟨rfl, k, w, hk, rfl⟩
        refine ⟨rfl, ?_⟩
        obtain ⟨dd, hd2, _⟩ := repK_get rk hk
        rw [List.getElem?_map, hd2] at hx
        cases hx
        cases k with
        | inl n => exact .int n
        | inr n => exact .str n
    | _ => exact hg.elim
/-- the same data, another floor -/
structure Swap (K : PySem.W.Frag) (F F' : Hp) : Prop where
  lst : ∀ a xs, F a = some (.lst xs) → F' a = some (.lst xs)
  ins : ∀ a C dx vs, F a = some (.ins C dx vs) → F' a = some (.ins C dx vs)
  tup : ∀ a xs, SqT K F a xs → SqT K F' a xs
  sql : ∀ a xs, SqL K F a xs → SqL K F' a xs
  dic : ∀ a vs, Rd F a (.dK vs) → Rd F' a (.dK vs)
  frt : ∀ a o vs, F a = some (.frz o (.tup vs)) → F' a = some (.frz o (.tup vs))
mutual
theorem Swap.rep {K : PySem.W.Frag} {F F' : Hp} (e : Swap K F F') : ∀ {d : D} {v : V}, Rep K fa F d v → Rep K fa F' d v
  | _, _, .non => .non
  | _, _, .bl b => .bl b
  | _, _, .int i => .int i
  | _, _, .str x => .str x
  | _, _, .feed a h => .feed a h
  | _, _, .opq v => .opq v
  | _, _, .scr h => .scr (e.sql _ _ h)
  | _, _, .tup h r => .tup (e.tup _ _ h) (Swap.repL e r)
  | _, _, .lst h r => .lst (e.lst _ _ h) (Swap.repL e r)
  | _, _, .dic h r => .dic (e.dic _ _ h) (Swap.repK e r)
  | _, _, .ins h c r => .ins (e.ins _ _ _ _ h) c (Swap.repF e r)
  | _, _, .ptup h n r => .ptup (e.frt _ _ _ h) n (Swap.repL e r)
theorem Swap.repF {K : PySem.W.Frag} {F F' : Hp} (e : Swap K F F') : ∀ {ds : List (Str × D)} {vs : List (Str × V)}, RepF K fa F ds vs → RepF K fa F' ds vs
  | _, _, .nil => .nil
  | _, _, .cons r t => .cons (Swap.rep e r) (Swap.repF e t)
theorem Swap.repL {K : PySem.W.Frag} {F F' : Hp} (e : Swap K F F') : ∀ {ds : List D} {vs : List V}, RepL K fa F ds vs → RepL K fa F' ds vs
  | _, _, .nil => .nil
  | _, _, .cons r t => .cons (Swap.rep e r) (Swap.repL e t)
theorem Swap.repK {K : PySem.W.Frag} {F F' : Hp} (e : Swap K F F') : ∀ {ds : List (Key × D)} {vs : List (Key × V)}, RepK K fa F ds vs → RepK K fa F' ds vs
  | _, _, .nil => .nil
  | _, _, .cons r t => .cons (Swap.rep e r) (Swap.repK e t)
end
theorem swap_lock {K : PySem.W.Frag} {F : Hp} {d : Addr} {vs : List (Key × V)} {o : Obj} (h : F d = some (.dK vs)) : Swap K F (upd F d (.frz o (.dK vs))) := by
  refine ⟨fun a xs e => ?_, fun a C dx us e => ?_, fun a xs e => ?_, fun a xs e => ?_, fun a us e => ?_, fun a o us e => by
    by_cases z : a = d
    · subst z; rw [h] at e; cases e
    · rw [upd_ne z]; exact e⟩
  · by_cases z : a = d
    · subst z; rw [h] at e; cases e
    · rw [upd_ne z]; exact e
  · by_cases z : a = d
    · subst z; rw [h] at e; cases e
    · rw [upd_ne z]; exact e
  · rcases e with (e | ⟨o', e⟩) | e
    · by_cases z : a = d
      · subst z; rw [h] at e; cases e
      · exact .inl (.inl (by rw [upd_ne z]; exact e))
    · by_cases z : a = d
      · subst z; rw [h] at e; cases e
      · exact .inl (.inr ⟨o', by rw [upd_ne z]; exact e⟩)
    · exact .inr e
  · rcases e with (e | ⟨o', e⟩) | e
    · by_cases z : a = d
      · subst z; rw [h] at e; cases e
      · exact .inl (.inl (by rw [upd_ne z]; exact e))
    · by_cases z : a = d
      · subst z; rw [h] at e; cases e
      · exact .inl (.inr ⟨o', by rw [upd_ne z]; exact e⟩)
    · exact .inr e
  · by_cases z : a = d
    · subst z
      rcases e with e | ⟨o', e⟩
      · rw [h] at e; cases e; exact .inr ⟨o, upd_same⟩
      · rw [h] at e; cases e
    · rcases e with e | ⟨o', e⟩
      · exact .inl (by rw [upd_ne z]; exact e)
      · exact .inr ⟨o', by rw [upd_ne z]; exact e⟩
theorem swap_unlock {K : PySem.W.Frag} {F : Hp} {d : Addr} {vs : List (Key × V)} {o : Obj} (h : F d = some (.frz o (.dK vs))) : Swap K F (upd F d (.dK vs)) := by
  refine ⟨fun a xs e => ?_, fun a C dx us e => ?_, fun a xs e => ?_, fun a xs e => ?_, fun a us e => ?_, fun a o us e => by
    by_cases z : a = d
    · subst z; rw [h] at e; cases e
    · rw [upd_ne z]; exact e⟩
  · by_cases z : a = d
    · subst z; rw [h] at e; cases e
    · rw [upd_ne z]; exact e
  · by_cases z : a = d
    · subst z; rw [h] at e; cases e
    · rw [upd_ne z]; exact e
  · rcases e with (e | ⟨o', e⟩) | e
    · by_cases z : a = d
      · subst z; rw [h] at e; cases e
      · exact .inl (.inl (by rw [upd_ne z]; exact e))
    · by_cases z : a = d
      · subst z; rw [h] at e; cases e
      · exact .inl (.inr ⟨o', by rw [upd_ne z]; exact e⟩)
    · exact .inr e
  · rcases e with (e | ⟨o', e⟩) | e
    · by_cases z : a = d
      · subst z; rw [h] at e; cases e
      · exact .inl (.inl (by rw [upd_ne z]; exact e))
    · by_cases z : a = d
      · subst z; rw [h] at e; cases e
      · exact .inl (.inr ⟨o', by rw [upd_ne z]; exact e⟩)
    · exact .inr e
  · by_cases z : a = d
    · subst z
      rcases e with e | ⟨o', e⟩
      · rw [h] at e; cases e
      · rw [h] at e; cases e; exact .inl upd_same
    · rcases e with e | ⟨o', e⟩
      · exact .inl (by rw [upd_ne z]; exact e)
      · exact .inr ⟨o', by rw [upd_ne z]; exact e⟩
theorem pe_or {e : Expr} {t t' : TE} (h : PE X e t) (h' : PE X e t') : PE X e (fun σ H Q => t σ H Q ∨ t' σ H Q) :=
  ⟨fun pins s σ H Q I q => q.elim (h.run pins s σ H Q I) (h'.run pins s σ H Q I)⟩
theorem same_upd2 {F H : Hp} {d : Addr} {u : HO} (h : Same F H) : Same (upd F d u) (upd H d u) := fun b o e => by
  by_cases z : b = d
  · subst z; rw [upd_same] at e ⊢; exact e
  · rw [upd_ne z] at e ⊢; exact h b o e
theorem feed_upd {K : PySem.W.Frag} {F H : Hp} {s : FS} {d : Addr} {u u' : HO} (h : FeedOk K fa F H s) (hd : F d = some u') (hu : ∀ xs, u' ≠ .lst xs) (hs : Same F H) (nt : NoTab u' := by exact ⟨fun ps z => (by cases z), fun c q z => by unfold LamX.CodeO at z; cases z⟩) : FeedOk K fa (upd F d u) (upd H d u) s := fun φ e => by
  obtain ⟨a1, a2, a3, a4⟩ := h φ e
  have n1 : φ.a ≠ d := fun z => by rw [z, hd] at a1; cases a1
  have n2 : φ.c ≠ d := fun z => by rw [z, hd] at a4; cases a4; exact hu _ rfl
  have ht := a3.2.upd (u' := u) (hs _ _ hd) nt
  have n3 : ∀ q, q ∈ φ.tabs → q.1 ≠ d := fun q hq z => by
    have := ht.1 q hq
    rw [z, hd] at this
    cases this
  exact ⟨by rw [upd_ne n1]; exact a1, a2, ⟨by rw [upd_ne n1]; exact a3.1, fun q hq => by rw [upd_ne (n3 q hq)]; exact ht.1 q hq, ht.2⟩, by rw [upd_ne n2]; exact a4⟩
/-- a computation of a new list, over a locked dict, at a dict that is locked for it -/
theorem nok_lock {i : Nat} {t : TE} {f : Env' → M (List D)} (k : NOkP (LockAt i) X fa Wσ t f) (hf : ∀ ρ s, (∃ kvs, ρ[i]?.join = some (.dic kvs)) ∨ f ρ s = .bad) (hq : ∀ ρ s e s', f ρ s ≠ .err e s') : NOk X fa Wσ (fun σ H Q => t σ H Q ∨ tLockE t σ H Q) f := by
  intro σ F H ρ s Q h1 h2 h3 hg
  rcases hf ρ s with ⟨kvs, hk⟩ | hb
  · obtain ⟨v, hv, r⟩ := h3.at_ i (.dic kvs) (by
      cases z : ρ[i]? with
      | none => rw [z] at hk; cases hk
      | some u => rw [z] at hk; cases u with
        | none => cases hk
        | some y => cases hk; rfl)
    cases r with
    | @dic d _ vs hd rk =>
      rcases hd with hd | ⟨o, hd⟩
      · refine .inr ⟨d, .dK vs, h1 _ _ hd, True.intro, fun od => ?_⟩
        have sw := swap_lock (K := X.K) (o := od) hd
        refine k σ (upd F d (.frz od (.dK vs))) (upd H d (.frz od (.dK vs))) ρ s _ ⟨d, od, vs, hv, upd_same⟩ (same_upd2 h1) (feed_upd h2 hd (by intro _ z; cases z) h1) ⟨h3.len, fun j x hx => ?_⟩ ?_
        · obtain ⟨w, a1, a2⟩ := h3.at_ j x hx
          exact ⟨w, a1, sw.rep a2⟩
        · cases q : f ρ s with
          | bad => rw [q] at hg; exact hg.elim
          | err e s' => exact absurd q (hq _ _ _ _)
          | ok xs s' =>
            rw [q] at hg
            intro p us F2 H2 e2 o2 n1 n2 n3 r2
            have f2 : F2 d = some (.frz od (.dK vs)) := e2.ff _ _ upd_same
            have g2 : H2 d = some (.frz od (.dK vs)) := e2.fh _ _ f2
            have hpd : p ≠ d := fun z => by rw [z] at n2; rw [f2] at n2; cases n2
            refine ⟨g2, hg p us (upd F2 d (.dK vs)) (upd H2 d (.dK vs)) ⟨fun b u e => ?_, same_upd2 e2.fh, fun b u e nf => ?_, fun b e => ?_, fun b e => ?_⟩ (feed_upd o2 f2 (by intro _ z; cases z) e2.fh) ?_ ?_ ?_ ((swap_unlock f2).repL r2)⟩
            · by_cases z : b = d
              · subst z; rw [upd_same]; rw [hd] at e; exact e
              · rw [upd_ne z]; exact e2.ff _ _ (by rw [upd_ne z]; exact e)
            · by_cases z : b = d
              · subst z; rw [upd_same]; rw [h1 _ _ hd] at e; exact e
              · rw [upd_ne z]; exact e2.hh _ _ (by rw [upd_ne z]; exact e) nf
            · by_cases z : b = d
              · subst z; rw [upd_same, hd]
              · rw [upd_ne z, e2.fr b (by rw [upd_ne z]; exact e), upd_ne z]
            · by_cases z : b = d
              · subst z; rw [upd_same]; simp
              · rw [upd_ne z]; exact e2.al b (by rw [upd_ne z]; exact e)
            · rw [upd_ne hpd] at n1; exact n1
            · rw [upd_ne hpd]; exact n2
            · rw [upd_ne hpd]; exact n3
      · exact .inl (k σ F H ρ s Q ⟨d, o, vs, hv, hd⟩ h1 h2 h3 hg)
  · rw [hb] at hg
    exact hg.elim
theorem lc_quiet {it : Env' → M (List D)} {b : D → Option Asg} {c : Env' → M Bool} {f : Env' → M D} (hi : ∀ ρ s e s', it ρ s ≠ .err e s') (ρ : Env') (s : FS) (e : Exc) (s' : FS) : dLc it b c f ρ s ≠ .err e s' := by
  intro h
  change ((it ρ s).bnd _) = _ at h
  cases q : it ρ s with
  | bad => rw [q] at h; cases h
  | err e2 s2 => exact hi _ _ _ _ q
  | ok xs s2 =>
    rw [q] at h
    change (if xs.length ≤ sizeLine then M.quiet (lcE b c f xs ρ) else M.bad) s2 = _ at h
    split at h
    · unfold M.quiet at h
      split at h
      · cases h
      · rename_i hn
        exact hn _ _ h
    · cases h
theorem keys_calm (i : Nat) (ρ : Env') (s : FS) (e : Exc) (s' : FS) : keysD i ρ s ≠ .err e s' := by
  intro h
  unfold keysD at h
  cases q : ρ[i]?.join with
  | none => rw [q] at h; cases h
  | some x => rw [q] at h; cases x <;> cases h
theorem keys_bad (i : Nat) (b : D → Option Asg) (c : Env' → M Bool) (f : Env' → M D) (ρ : Env') (s : FS) : (∃ kvs, ρ[i]?.join = some (.dic kvs)) ∨ dLc (keysD i) b c f ρ s = .bad := by
  cases q : ρ[i]?.join with
  | none => exact .inr (by show ((keysD i ρ s).bnd _) = _; unfold keysD; rw [q]; rfl)
  | some x => cases x with
    | dic kvs => exact .inl ⟨kvs, rfl⟩
    | _ => exact .inr (by show ((keysD i ρ s).bnd _) = _; unfold keysD; rw [q]; rfl)
/-- [elt for k in d if ..], d a name of a dict -/
theorem nd_lcKeys {tg elt : Expr} {ifs : List Expr} {scope : Scope} {own : List (Str × Nat)} {pos vp : Pos} {x : Str} {i : Nat} {b : D → Option Asg} {c : Env' → M Bool} {f : Env' → M D} {ns : List Nat} (hc : X.calm = true) (hN : X.N.Nodup) (hi : PE X (.Name x vp) (tVar i)) (ok : BlkOk X.N X.env.scope scope own)
    (hin : ∀ n ∈ ns, n ∈ own.map (·.2)) (hni : ∀ n ∈ own.map (·.2), n ∈ ns)
    (hg : ∀ (s : Shared) (H : Hp) (C : Addr) (cl : List (Str × Addr)) (fp : List Addr), TJ (X.blk s H scope (compEnvC scope cl C X.env) fp) tg ns b) (ht : ∀ (s : Shared) (H : Hp) (C : Addr) (cl : List (Str × Addr)) (fp : List Addr), PTsD (X.blk s H scope (compEnvC scope cl C X.env) fp) fa Wno ifs c)
    (he : ∀ (s : Shared) (H : Hp) (C : Addr) (cl : List (Str × Addr)) (fp : List Addr), ED (X.blk s H scope (compEnvC scope cl C X.env) fp) fa Wno elt f) (hs : ∀ y, foldedSetIterable (.Name x vp) X.env y = pure y := by intro _; rfl) :
    ND X fa Wσ (.ListComp elt [⟨tg, .Name x vp, ifs, 0⟩] scope pos) (dLc (keysD i) b c f) := by
  have p : PE X (.ListComp elt [⟨tg, .Name x vp, ifs, 0⟩] scope pos) (tLc (iKeys (tVar i)) (gStar X ns b) (tStarB X fa Wno c) (tStar X fa Wno f) (own.map (·.2))) := pe_lc hc hN (pi_keys hi) ok (fun s H C cl fp => (hg s H C cl fp).star) (tt := tStarB X fa Wno c) (fun s H C cl fp => (ht s H C cl fp).star) (fun s H C cl fp => (he s H C cl fp).star) hs
  exact ⟨_, pe_or p (pe_lock p), nok_lock (nok_lcP (tg := tg) (iter := .Name x vp) (elt := elt) iok_keys hin hni) (keys_bad i b c f) (lc_quiet (keys_calm i))⟩
/-! ### dict(x) -/
def dictD : List D → Option D
  | [.dic xs] => some (.dic xs)
  | _ => none
theorem ok_dict : CallOk X fa (fun xs H Q => ∃ (a : Addr) (kvs : List (Key × V)), xs = [.ref a] ∧ Rd H a (.dK kvs) ∧ ∀ p, H p = none → Q (.ref p) (upd H p (.dK kvs))) dictD := by
  intro F H s xs as Q h1 h2 r h
  cases r with
  | nil => exact h.elim
  | cons r t =>
    cases t with
    | cons _ _ => cases r <;> exact h.elim
    | nil =>
      cases r with
      | dic hq r => exact ⟨_, _, rfl, same_rd h1 hq, fun p hp => GoodO.new h1 h2 hp (.dic (.inl upd_same) (r.mono (Ext.new (fa := fa) h1 hp).ff)) h⟩
      | _ => exact h.elim
end
end DL

set_option Elab.async false
set_option linter.all false
set_option maxRecDepth 100000
set_option maxHeartbeats 2000000
/-! zip over two lists, when the tuples are kept: behind the first turn its own tuple is alive. -/
namespace ZK
open PySem PySem.Spec PyProof.Rows
/-- a zip whose own tuple T0 was handed out -/
def IsZipO (h : Heap) (z TI TO T0 : Addr) (fl : Bool) : Prop :=
  h.get? z = some { cls := .type "zip", dict := none, data := .fields #[rawInt T0, .bool fl, .bool false, .ref TI, .ref TO], slots := #[] }
section
variable {prog : Program} {w : World} {A : Around} {E : Value → Shared → Prop} {s : Shared}
theorem wpAny_alive {M : Model} {a : Addr} {Q : Option Obj → Shared → Prop} (h : Q (s.heap.get? a) s) : wpAny M A (loadIfAlive a) Q E s := fun _ _ _ => h
theorem notFree {z TI TO T0 : Addr} {fl : Bool} {o0 : Obj} {Q : Bool → Shared → Prop} (hz : IsZipO s.heap z TI TO T0 fl) (h0 : s.heap.get? T0 = some o0)
    (hQ : ∀ h' fl', IsZipO h' z TI TO T0 fl' → Heap.SameBut z s.heap h' → Q false { s with heap := h' }) : wpAny (model prog w) A (Builtin.SmallTypes.ownedTupleIsFree (.ref z)) Q E s := by
  unfold Builtin.SmallTypes.ownedTupleIsFree
  refine wpAny_bind (wpAny_field hz rfl (x := rawInt T0) rfl ?_)
  show wpAny _ _ (loadIfAlive ((T0 : Int).toNat) >>= _) _ _ _
  refine wpAny_bind (wpAny_alive ?_)
  rw [Int.toNat_natCast, h0]
  show wpAny _ _ (field (.ref z) 1 >>= _) _ _ _
  refine wpAny_bind (wpAny_field hz rfl (x := .bool fl) rfl ?_)
  cases fl with
  | true =>
    refine wpAny_bind (wpAny_pure (wpAny_pure ?_))
    exact hQ s.heap true hz (Heap.SameBut.refl _ _)
  | false =>
    refine wpAny_bind ?_
    refine wpAny_setField_rec hz (by simp) fun h' hz' hs' => wpAny_pure ?_
    exact hQ h' true hz' hs'
theorem zipO_item {z TI TO T0 i1 i2 l1 l2 : Addr} {fl : Bool} {o0 : Obj} {k1 k2 : Nat} {xs ys : Array Value} {x y : Value} {Q : Value → Shared → Prop} (D : ZipApart z TI TO i1 i2 l1 l2)
    (hz : IsZipO s.heap z TI TO T0 fl) (h0 : s.heap.get? T0 = some o0) (hTI : IsPair s.heap TI (.ref i1) (.ref i2))
    (h1 : s.heap.IsListIter i1 l1 k1) (h2 : s.heap.IsListIter i2 l2 k2) (hl1 : s.heap.IsList l1 xs) (hl2 : s.heap.IsList l2 ys) (hx : xs[k1]? = some x) (hy : ys[k2]? = some y)
    (hQ : ∀ h' fl', IsZipO h' z TI TO T0 fl' → h'.IsListIter i1 l1 (k1 + 1) → h'.IsListIter i2 l2 (k2 + 1) → IsPair h' s.heap.objs.size x y → h'.objs.size = s.heap.objs.size + 1 →
      (∀ c o, c ≠ z → c ≠ i1 → c ≠ i2 → s.heap.get? c = some o → h'.get? c = some o) → Q (.ref s.heap.objs.size) { s with heap := h' }) :
    wpAny (model prog w) A (Builtin.«zip.__next__» ⟨[.ref z], []⟩) (fun fin s' => ∃ v, fin = .done (.ret v) ∧ Q v s') E s := by
  show wpAny _ _ (field (.ref z) 2 >>= _) _ _ _
  refine wpAny_bind (wpAny_field hz rfl (x := .bool false) rfl ?_)
  show wpAny _ _ (field (.ref z) 3 >>= _) _ _ _
  refine wpAny_bind (wpAny_field hz rfl (x := .ref TI) rfl ?_)
  refine wpAny_bind (wpAny_seqItems hTI rfl ?_)
  show wpAny _ _ (Builtin.SmallTypes.ownedTupleIsFree (.ref z) >>= _) _ _ _
  refine wpAny_bind (notFree hz h0 fun g0 fl' hz0 hs0 => ?_)
  simp only [Bool.false_eq_true, if_false]
  refine wpAny_bind ?_
  simp only [List.forIn_toArray, List.forIn_cons, List.forIn_nil]
  refine wpAny_bind (wpAny_bind (wpAny_holding ?_))
  show wpAny _ _ (Builtin.SmallTypes.nextOf (.ref i1) >>= _) _ _ _
  refine wpAny_bind (wpAny_nextOf_list_item (h1.extBut hs0.extBut D.i1z) (hl1.extBut hs0.extBut D.l1z) hx fun g1 h11 hs1 => wpAny_pure ?_)
  refine wpAny_pure ?_
  refine wpAny_bind (wpAny_bind (wpAny_holding ?_))
  show wpAny _ _ (Builtin.SmallTypes.nextOf (.ref i2) >>= _) _ _ _
  refine wpAny_bind (wpAny_nextOf_list_item ((h2.extBut hs0.extBut D.i2z).extBut hs1.extBut D.i12.symm) ((hl2.extBut hs0.extBut D.l2z).extBut hs1.extBut D.l2i1) hy fun g2 h22 hs2 => wpAny_pure ?_)
  refine wpAny_pure (wpAny_pure ?_)
  refine wpAny_bind (wpAny_newTuple (hsz := by show 2 ≤ sizeLine; decide) ?_)
  have hsz : g2.objs.size = s.heap.objs.size := by rw [hs2.1, hs1.1, hs0.1]
  have hz2 : IsZipO g2 z TI TO T0 fl' := hs2.extBut _ _ D.i2z.symm (hs1.extBut _ _ D.i1z.symm hz0)
  have hk2 : ∀ c o, c ≠ z → c ≠ i1 → c ≠ i2 → s.heap.get? c = some o → g2.get? c = some o := fun c o c1 c3 c4 e => hs2.extBut _ _ c4 (hs1.extBut _ _ c3 (hs0.extBut _ _ c1 e))
  refine wpAny_pure ⟨_, rfl, ?_⟩
  show Q (.ref g2.objs.size) _
  have key := hQ (g2.push { cls := .type "tuple", data := .seq #[x, y] }) fl' (Heap.get?_push_of_some _ hz2) ((h11.extBut hs2.extBut D.i12).at fun o e => Heap.get?_push_of_some _ e) (h22.at fun o e => Heap.get?_push_of_some _ e) ?_ ?_ (fun c o c1 c3 c4 e => Heap.get?_push_of_some _ (hk2 c o c1 c3 c4 e))
  · rw [hsz]
    exact key
  · rw [← hsz]
    exact Heap.get?_push_size _ rfl
  · rw [Heap.size_push, hsz]
theorem zipO_end {z TI TO T0 i1 i2 l1 l2 : Addr} {fl : Bool} {o0 : Obj} {k1 k2 : Nat} {xs ys : Array Value} {Q : Fin → Shared → Prop} (hh : A.handled = none) (D : ZipApart z TI TO i1 i2 l1 l2)
    (hz : IsZipO s.heap z TI TO T0 fl) (h0 : s.heap.get? T0 = some o0) (hTI : IsPair s.heap TI (.ref i1) (.ref i2))
    (h1 : s.heap.IsListIter i1 l1 k1) (h2 : s.heap.IsListIter i2 l2 k2) (hl1 : s.heap.IsList l1 xs) (hl2 : s.heap.IsList l2 ys) (hend : xs[k1]? = none ∨ ys[k2]? = none)
    (hE : ∀ h' e, (∀ c o, c ≠ z → c ≠ i1 → c ≠ i2 → s.heap.get? c = some o → h'.get? c = some o) → (∃ o, h'.get? e = some o ∧ o.cls = .type "StopIteration") → E (.ref e) { s with heap := h' }) :
    wpAny (model prog w) A (Builtin.«zip.__next__» ⟨[.ref z], []⟩) Q E s := by
  show wpAny _ _ (field (.ref z) 2 >>= _) _ _ _
  refine wpAny_bind (wpAny_field hz rfl (x := .bool false) rfl ?_)
  show wpAny _ _ (field (.ref z) 3 >>= _) _ _ _
  refine wpAny_bind (wpAny_field hz rfl (x := .ref TI) rfl ?_)
  refine wpAny_bind (wpAny_seqItems hTI rfl ?_)
  show wpAny _ _ (Builtin.SmallTypes.ownedTupleIsFree (.ref z) >>= _) _ _ _
  refine wpAny_bind (notFree hz h0 fun g0 fl' hz0 hs0 => ?_)
  simp only [Bool.false_eq_true, if_false]
  refine wpAny_bind ?_
  simp only [List.forIn_toArray, List.forIn_cons, List.forIn_nil]
  refine wpAny_bind (wpAny_bind (wpAny_holding ?_))
  show wpAny _ _ (Builtin.SmallTypes.nextOf (.ref i1) >>= _) _ _ _
  cases qx : xs[k1]? with
  | none =>
    refine wpAny_bind (wpAny_nextOf_list_end hh (h1.extBut hs0.extBut D.i1z) (hl1.extBut hs0.extBut D.l1z) qx fun h' e he ho => ?_)
    exact hE h' e (fun c o c1 c3 c4 z => he _ _ c3 (hs0.extBut _ _ c1 z)) ho
  | some x =>
    have hy : ys[k2]? = none := by
      rcases hend with h | h
      · rw [qx] at h; cases h
      · exact h
    refine wpAny_bind (wpAny_nextOf_list_item (h1.extBut hs0.extBut D.i1z) (hl1.extBut hs0.extBut D.l1z) qx fun g1 h11 hs1 => wpAny_pure ?_)
    refine wpAny_pure ?_
    refine wpAny_bind (wpAny_bind (wpAny_holding ?_))
    show wpAny _ _ (Builtin.SmallTypes.nextOf (.ref i2) >>= _) _ _ _
    refine wpAny_bind (wpAny_nextOf_list_end hh ((h2.extBut hs0.extBut D.i2z).extBut hs1.extBut D.i12.symm) ((hl2.extBut hs0.extBut D.l2z).extBut hs1.extBut D.l2i1) hy fun h' e he ho => ?_)
    exact hE h' e (fun c o c1 c3 c4 z => he _ _ c4 (hs1.extBut _ _ c3 (hs0.extBut _ _ c1 z))) ho
theorem nextO_item {z TI TO T0 i1 i2 l1 l2 : Addr} {fl : Bool} {o0 : Obj} {k1 k2 : Nat} {xs ys : Array Value} {x y : Value} {Q : Option Value → Shared → Prop} (D : ZipApart z TI TO i1 i2 l1 l2)
    (hz : IsZipO s.heap z TI TO T0 fl) (h0 : s.heap.get? T0 = some o0) (hTI : IsPair s.heap TI (.ref i1) (.ref i2))
    (h1 : s.heap.IsListIter i1 l1 k1) (h2 : s.heap.IsListIter i2 l2 k2) (hl1 : s.heap.IsList l1 xs) (hl2 : s.heap.IsList l2 ys) (hx : xs[k1]? = some x) (hy : ys[k2]? = some y)
    (hQ : ∀ h' fl', IsZipO h' z TI TO T0 fl' → h'.IsListIter i1 l1 (k1 + 1) → h'.IsListIter i2 l2 (k2 + 1) → IsPair h' s.heap.objs.size x y → h'.objs.size = s.heap.objs.size + 1 →
      (∀ c o, c ≠ z → c ≠ i1 → c ≠ i2 → s.heap.get? c = some o → h'.get? c = some o) → Q (some (.ref s.heap.objs.size)) { s with heap := h' }) :
    wpAny (model prog w) A (pyNext (.ref z)) Q E s := by
  have hT : s.TypeIs (.ref z) "zip" := ⟨_, hz, rfl⟩
  unfold pyNext
  exact wpAny_bind (wpAny_attempt (wpAny_callSpecial?_slot (name := Str.ofString "__next__") hT F.slot_zip_next
    (wpAny_call_entry F.slot_zip_next hT F.entry_zip_next
      (zipO_item D hz h0 hTI h1 h2 hl1 hl2 hx hy fun h' fl' a1 a3 a4 a5 a6 a7 => wpAny_pure (hQ h' fl' a1 a3 a4 a5 a6 a7)) (F.args_zip_next_1 _))))
theorem nextO_end {z TI TO T0 i1 i2 l1 l2 : Addr} {fl : Bool} {o0 : Obj} {k1 k2 : Nat} {xs ys : Array Value} {Q : Option Value → Shared → Prop} (hh : A.handled = none) (D : ZipApart z TI TO i1 i2 l1 l2)
    (hz : IsZipO s.heap z TI TO T0 fl) (h0 : s.heap.get? T0 = some o0) (hTI : IsPair s.heap TI (.ref i1) (.ref i2))
    (h1 : s.heap.IsListIter i1 l1 k1) (h2 : s.heap.IsListIter i2 l2 k2) (hl1 : s.heap.IsList l1 xs) (hl2 : s.heap.IsList l2 ys) (hend : xs[k1]? = none ∨ ys[k2]? = none)
    (hQ : ∀ h', (∀ c o, c ≠ z → c ≠ i1 → c ≠ i2 → s.heap.get? c = some o → h'.get? c = some o) → Q none { s with heap := h' }) : wpAny (model prog w) A (pyNext (.ref z)) Q E s := by
  have hT : s.TypeIs (.ref z) "zip" := ⟨_, hz, rfl⟩
  unfold pyNext
  refine wpAny_bind (wpAny_attempt (wpAny_callSpecial?_slot (name := Str.ofString "__next__") hT F.slot_zip_next
    (wpAny_call_entry F.slot_zip_next hT F.entry_zip_next (zipO_end hh D hz h0 hTI h1 h2 hl1 hl2 hend fun h' e hk he => ?_) (F.args_zip_next_1 _))))
  obtain ⟨o, ho, hc⟩ := he
  refine wpAny_bind (wpAny_isInstance (T := "StopIteration") (b := true) ⟨o, ho, hc⟩ isSubtype_stop ?_)
  exact wpAny_pure (hQ _ hk)
end
end ZK

set_option Elab.async false
set_option linter.all false
set_option maxRecDepth 100000
set_option maxHeartbeats 2000000
/-! list over a zip of two lists. -/
namespace ZK
open PySem PySem.Spec PyProof.Rows
/-- the items so far: new pairs, made behind S -/
def PairsAt (S : Addr) (h : Heap) (xs ys : Array Value) (acc : Array Value) (i : Nat) : Prop :=
  acc.size = i ∧ (∀ (j : Nat) v, acc[j]? = some v → ∃ T x y, v = .ref T ∧ S < T ∧ IsPair h T x y ∧ xs[j]? = some x ∧ ys[j]? = some y) ∧ ∀ (j k : Nat) v, acc[j]? = some v → acc[k]? = some v → j = k
structure ZS (h : Heap) (z TI TO i1 i2 l1 l2 : Addr) (xs ys : Array Value) (i : Nat) : Prop where
  ti : IsPair h TI (.ref i1) (.ref i2)
  h1 : h.IsListIter i1 l1 i
  h2 : h.IsListIter i2 l2 i
  hl1 : h.IsList l1 xs
  hl2 : h.IsList l2 ys
  zz : (i = 0 ∧ IsZip h z TI TO .none ∧ ∃ a b, IsPair h TO a b) ∨ ∃ T0 fl x y, IsZipO h z TI TO T0 fl ∧ IsPair h T0 x y
section
variable {prog : Program} {w : World} {A : Around} {R : Result → Shared → Prop} {z TI TO i1 i2 l1 l2 S : Addr} {xs ys : Array Value}
theorem pairs_keep {h h' : Heap} {acc : Array Value} {i : Nat} (P : PairsAt S h xs ys acc i) (k : ∀ T x y, IsPair h T x y → IsPair h' T x y) : PairsAt S h' xs ys acc i :=
  ⟨P.1, fun j v e => by
    obtain ⟨T, x, y, e1, e0, e2, e3, e4⟩ := P.2.1 j v e
    exact ⟨T, x, y, e1, e0, k T x y e2, e3, e4⟩, P.2.2⟩
theorem pairs_push {h : Heap} {acc : Array Value} {i : Nat} {T : Addr} {x y : Value} (P : PairsAt S h xs ys acc i) (hT : S < T) (lt : ∀ (j : Nat) T', acc[j]? = some (.ref T') → T' < T) (e : IsPair h T x y) (hx : xs[i]? = some x) (hy : ys[i]? = some y) : PairsAt S h xs ys (acc.push (.ref T)) (i + 1) := by
  have sz := P.1
  have cut : ∀ (j : Nat) v, (acc.push (.ref T))[j]? = some v → (j = i ∧ v = .ref T) ∨ acc[j]? = some v := fun j v hj => by
    rw [Array.getElem?_push] at hj
    split at hj
    · rename_i e2
      rw [P.1] at e2
      cases hj
      exact .inl ⟨e2, rfl⟩
    · exact .inr hj
  refine ⟨by rw [Array.size_push, P.1], fun j v hj => ?_, fun j k v hj hk => ?_⟩
  · rcases cut j v hj with ⟨rfl, rfl⟩ | hj
    · exact ⟨T, x, y, rfl, hT, e, hx, hy⟩
    · exact P.2.1 j v hj
  · rcases cut j v hj with ⟨rfl, rfl⟩ | hj
    · rcases cut k _ hk with ⟨rfl, _⟩ | hk
      · rfl
      · exact absurd (lt k T hk) (Nat.lt_irrefl _)
    · rcases cut k v hk with ⟨rfl, rfl⟩ | hk
      · exact absurd (lt j T hj) (Nat.lt_irrefl _)
      · exact P.2.2 j k v hj hk
theorem pair_cls {h : Heap} {T : Addr} {x y : Value} {o : Obj} (e : IsPair h T x y) (ho : h.get? T = some o) : o.cls = .type "tuple" := by
  have e : h.get? T = some { cls := .type "tuple", data := .seq #[x, y] } := e
  rw [ho] at e
  cases e
  rfl
theorem pair_it {h : Heap} {T l : Addr} {x y : Value} {i : Nat} (e : IsPair h T x y) (ho : h.IsListIter T l i) : False := by
  obtain ⟨o, ho, hc, hd⟩ := ho
  have := hc.symm.trans (pair_cls e ho)
  injection this with h
  exact absurd h (by decide)
theorem pair_zip {h : Heap} {T TI TO T0 : Addr} {x y : Value} {fl : Bool} (e : IsPair h T x y) (ho : IsZipO h T TI TO T0 fl) : False := by
  have := pair_cls e ho
  injection this with h
  exact absurd h (by decide)
theorem pair_list {h : Heap} {T : Addr} {x y : Value} {acc : Array Value} {c : Nat} (e : IsPair h T x y) (ho : h.get? T = some { cls := .type "list", dict := none, data := .seq acc c, slots := #[] }) : False := by
  have := pair_cls e ho
  injection this with h
  exact absurd h (by decide)
theorem loop_zip (hh : A.handled = none) (D : ZipApart z TI TO i1 i2 l1 l2) (hS : S ≠ z ∧ S ≠ TI ∧ S ≠ TO ∧ S ≠ i1 ∧ S ≠ i2 ∧ S ≠ l1 ∧ S ≠ l2) (hn : min xs.size ys.size ≤ sizeLine) (res : Value) :
    ∀ (k i : Nat) (s : Shared) (acc : Array Value) (c : Nat), min xs.size ys.size - i = k → i ≤ min xs.size ys.size → ZS s.heap z TI TO i1 i2 l1 l2 xs ys i → s.heap.get? S = some { cls := .type "list", dict := none, data := .seq acc c, slots := #[] } → PairsAt S s.heap xs ys acc i →
    (∀ h' acc' c', (∀ b o, b ≠ S → b ≠ z → b ≠ TO → b ≠ i1 → b ≠ i2 → s.heap.get? b = some o → h'.get? b = some o) → h'.get? S = some { cls := .type "list", dict := none, data := .seq acc' c', slots := #[] } → PairsAt S h' xs ys acc' (min xs.size ys.size) → R (.ok (.ret res)) { s with heap := h' }) →
    codeAny (model prog w) A (.builtin "list.extend.loop" ⟨[.ref S, .ref z, res], []⟩) R s := by
  intro k
  induction k with
  | zero =>
    intro i s acc c hk hi hst hSl hacc hR
    have hin : i = min xs.size ys.size := by omega
    subst hin
    refine codeAny_builtin F.entry_extend_loop ?_
    rw [Around.under_plainId F.plain_extend_loop _]
    show wpAny _ A.in1 (pyNext (.ref z) >>= _) _ _ s
    have hend : xs[min xs.size ys.size]? = none ∨ ys[min xs.size ys.size]? = none := by
      rcases Nat.le_total xs.size ys.size with h | h
      · exact .inl (by rw [Nat.min_eq_left h]; simp)
      · exact .inr (by rw [Nat.min_eq_right h]; simp)
    have fin : ∀ h', (∀ b o, b ≠ z → b ≠ TO → b ≠ i1 → b ≠ i2 → s.heap.get? b = some o → h'.get? b = some o) → (∀ T x y, IsPair s.heap T x y → acc.size ≠ 0 → IsPair h' T x y) → R (.ok (.ret res)) { s with heap := h' } := fun h' kp kT => by
      refine hR h' acc c (fun b o n1 n2 n3 n4 n5 e => kp b o n2 n3 n4 n5 e) (kp S _ hS.1 hS.2.2.1 hS.2.2.2.1 hS.2.2.2.2.1 hSl) ⟨hacc.1, fun j v e => ?_, hacc.2.2⟩
      obtain ⟨T, x, y, e1, e0, e2, e3, e4⟩ := hacc.2.1 j v e
      refine ⟨T, x, y, e1, e0, kT T x y e2 (fun q => ?_), e3, e4⟩
      have := (Array.getElem?_eq_some_iff.mp e).1
      omega
    rcases hst.zz with ⟨h0, hz, a, b, hTO⟩ | ⟨T0, fl, x, y, hz, hT0⟩
    · refine wpAny_bind (wpAny_pyNext_zip_end hh D hz hst.ti hTO hst.h1 hst.h2 hst.hl1 hst.hl2 hend fun h' kp => wpAny_pure ?_)
      exact fin h' (fun b o n1 n2 n3 n4 e => kp b o n1 n2 n3 n4 e) fun T x y _ q => absurd (hacc.1.trans h0) q
    · refine wpAny_bind (nextO_end hh D hz hT0 hst.ti hst.h1 hst.h2 hst.hl1 hst.hl2 hend fun h' kp => wpAny_pure ?_)
      refine fin h' (fun b o n1 n2 n3 n4 e => kp b o n1 n3 n4 e) fun T x y e _ => kp T _ (fun q => ?_) (fun q => ?_) (fun q => ?_) e
      · subst q; exact pair_zip e hz
      · subst q; exact pair_it e hst.h1
      · subst q; exact pair_it e hst.h2
  | succ k ih =>
    intro i s acc c hk hi hst hSl hacc hR
    have hlt : i < min xs.size ys.size := by omega
    have hx : xs[i]? = some xs[i] := Array.getElem?_eq_getElem (by omega)
    have hy : ys[i]? = some ys[i] := Array.getElem?_eq_getElem (by omega)
    refine codeAny_builtin F.entry_extend_loop ?_
    rw [Around.under_plainId F.plain_extend_loop _]
    show wpAny _ A.in1 (pyNext (.ref z) >>= _) _ _ s
    have ltT : ∀ (j : Nat) T', acc[j]? = some (.ref T') → T' < s.heap.objs.size := fun j T' e => by
      obtain ⟨T, x, y, e1, e0, e2, e3, e4⟩ := hacc.2.1 j _ e
      cases e1
      exact Heap.lt_size e2
    have ltS : S < s.heap.objs.size := Heap.lt_size hSl
    rcases hst.zz with ⟨h0, hz, a, b, hTO⟩ | ⟨T0, fl, x0, y0, hz, hT0⟩
    · refine wpAny_bind (wpAny_pyNext_zip_item D hz hst.ti hTO hst.h1 hst.h2 hst.hl1 hst.hl2 hx hy fun h' a1 a2 a3 a4 a5 a6 kp => ?_)
      have hSl' := kp S _ hS.1 hS.2.2.1 hS.2.2.2.1 hS.2.2.2.2.1 hSl
      show wpAny _ A.in1 (updateSeq S (·.push (.ref s.heap.objs.size)) >>= _) _ _ _
      have oth : ∀ b o, b ≠ S → h'.get? b = some o → (h'.update S (Obj.mapSeq (·.push (.ref s.heap.objs.size)))).get? b = some o := fun b o hb e => (Heap.get?_update_other _ _ (Ne.symm hb)).trans e
      have pk : ∀ T x y, IsPair h' T x y → IsPair (h'.update S (Obj.mapSeq (·.push (.ref s.heap.objs.size)))) T x y := fun T x y e => oth T _ (fun q => by subst q; exact pair_list e hSl') e
      refine wpAny_bind ?_
      refine wpAny_updateSeq hSl' rfl (wpAny_pure ⟨plainId_quiet F.plain_extend_loop _, ih (i + 1) _ (acc.push (.ref s.heap.objs.size)) _ (by omega) hlt ⟨pk _ _ _ (kp TI _ D.TIz D.TITO D.TIi1 D.TIi2 hst.ti), a3.at fun o e => oth _ o hS.2.2.2.1.symm e, a4.at fun o e => oth _ o hS.2.2.2.2.1.symm e, ?l1, ?l2, .inr ⟨s.heap.objs.size, false, _, _, oth _ _ hS.1.symm a1, pk _ _ _ a5⟩⟩ (Heap.get?_update_self _ hSl' rfl) (pairs_keep (pairs_push ⟨hacc.1, fun j v e => absurd (Array.getElem?_eq_some_iff.mp e).1 (by rw [hacc.1, h0]; omega), hacc.2.2⟩ ltS ltT a5 hx hy) pk) fun h'' acc' c' kp2 hS'' hacc' => ?_⟩)
        (by rw [hacc.1]; omega) (by show (acc.push _).size ≤ sizeLine + 1; rw [Array.size_push, hacc.1]; omega)
      case l1 => obtain ⟨o, ho, hr⟩ := (show h'.IsList l1 xs from (by obtain ⟨o, ho, hr⟩ := hst.hl1; exact ⟨o, kp _ _ D.l1z D.l1TO D.l1i1 D.l1i2 ho, hr⟩)); exact ⟨o, oth _ _ hS.2.2.2.2.2.1.symm ho, hr⟩
      case l2 => obtain ⟨o, ho, hr⟩ := (show h'.IsList l2 ys from (by obtain ⟨o, ho, hr⟩ := hst.hl2; exact ⟨o, kp _ _ D.l2z D.l2TO D.l2i1 D.l2i2 ho, hr⟩)); exact ⟨o, oth _ _ hS.2.2.2.2.2.2.symm ho, hr⟩
      exact hR h'' acc' c' (fun b o n1 n2 n3 n4 n5 e => kp2 b o n1 n2 n3 n4 n5 (oth b o n1 (kp b o n2 n3 n4 n5 e))) hS'' hacc'
    · refine wpAny_bind (nextO_item D hz hT0 hst.ti hst.h1 hst.h2 hst.hl1 hst.hl2 hx hy fun h' fl1 a1 a3 a4 a5 a6 kp => ?_)
      have kq : ∀ T x y, IsPair s.heap T x y → IsPair h' T x y := fun T x y e => kp T _ (fun q => by subst q; exact pair_zip e hz) (fun q => by subst q; exact pair_it e hst.h1) (fun q => by subst q; exact pair_it e hst.h2) e
      have hSl' := kp S _ hS.1 hS.2.2.2.1 hS.2.2.2.2.1 hSl
      show wpAny _ A.in1 (updateSeq S (·.push (.ref s.heap.objs.size)) >>= _) _ _ _
      have oth : ∀ b o, b ≠ S → h'.get? b = some o → (h'.update S (Obj.mapSeq (·.push (.ref s.heap.objs.size)))).get? b = some o := fun b o hb e => (Heap.get?_update_other _ _ (Ne.symm hb)).trans e
      have pk : ∀ T x y, IsPair h' T x y → IsPair (h'.update S (Obj.mapSeq (·.push (.ref s.heap.objs.size)))) T x y := fun T x y e => oth T _ (fun q => by subst q; exact pair_list e hSl') e
      refine wpAny_bind ?_
      refine wpAny_updateSeq hSl' rfl (wpAny_pure ⟨plainId_quiet F.plain_extend_loop _, ih (i + 1) _ (acc.push (.ref s.heap.objs.size)) _ (by omega) hlt ⟨pk _ _ _ (kp TI _ D.TIz D.TIi1 D.TIi2 hst.ti), a3.at fun o e => oth _ o hS.2.2.2.1.symm e, a4.at fun o e => oth _ o hS.2.2.2.2.1.symm e, ?l1, ?l2, .inr ⟨T0, fl1, _, _, oth _ _ hS.1.symm a1, pk _ _ _ (kq _ _ _ hT0)⟩⟩ (Heap.get?_update_self _ hSl' rfl) (pairs_keep (pairs_push (pairs_keep hacc kq) ltS ltT a5 hx hy) pk) fun h'' acc' c' kp2 hS'' hacc' => ?_⟩)
        (by rw [hacc.1]; omega) (by show (acc.push _).size ≤ sizeLine + 1; rw [Array.size_push, hacc.1]; omega)
      case l1 => obtain ⟨o, ho, hr⟩ := (show h'.IsList l1 xs from (by obtain ⟨o, ho, hr⟩ := hst.hl1; exact ⟨o, kp _ _ D.l1z D.l1i1 D.l1i2 ho, hr⟩)); exact ⟨o, oth _ _ hS.2.2.2.2.2.1.symm ho, hr⟩
      case l2 => obtain ⟨o, ho, hr⟩ := (show h'.IsList l2 ys from (by obtain ⟨o, ho, hr⟩ := hst.hl2; exact ⟨o, kp _ _ D.l2z D.l2i1 D.l2i2 ho, hr⟩)); exact ⟨o, oth _ _ hS.2.2.2.2.2.2.symm ho, hr⟩
      exact hR h'' acc' c' (fun b o n1 n2 n3 n4 n5 e => kp2 b o n1 n2 n3 n4 n5 (oth b o n1 (kp b o n2 n4 n5 e))) hS'' hacc'
end
end ZK

set_option Elab.async false
set_option linter.all false
set_option maxRecDepth 100000
set_option maxHeartbeats 2000000
/-! list(zip of two lists): the call. -/
namespace ZK
open PySem PySem.Spec PyProof.Rows
theorem zip_no_len : typeLookup (.type "zip") "__len__" = pure none := by rw [typeLookup_type, builtinLookup_eq_fast]; kernel_rfl
theorem zip_no_hint : typeLookup (.type "zip") "__length_hint__" = pure none := by rw [typeLookup_type, builtinLookup_eq_fast]; kernel_rfl
section
variable {prog : Program} {w : World} {A : Around} {E : Value → Shared → Prop} {s : Shared} {z TI TO i1 i2 l1 l2 S : Addr} {xs ys : Array Value}
theorem extend_zip {R : Result → Shared → Prop} (hh : A.handled = none) (D : ZipApart z TI TO i1 i2 l1 l2) (hD : S ≠ z ∧ S ≠ TI ∧ S ≠ TO ∧ S ≠ i1 ∧ S ≠ i2 ∧ S ≠ l1 ∧ S ≠ l2) (hn : min xs.size ys.size ≤ sizeLine)
    (hS : ∃ c, s.heap.get? S = some { cls := .type "list", dict := none, data := .seq #[] c, slots := #[] }) {a b : Value} (hz : IsZip s.heap z TI TO .none) (ti : IsPair s.heap TI (.ref i1) (.ref i2)) (to : IsPair s.heap TO a b)
    (h1 : s.heap.IsListIter i1 l1 0) (h2 : s.heap.IsListIter i2 l2 0) (hl1 : s.heap.IsList l1 xs) (hl2 : s.heap.IsList l2 ys) (res : Value)
    (hR : ∀ h' acc' c', (∀ b o, b ≠ S → b ≠ z → b ≠ TO → b ≠ i1 → b ≠ i2 → s.heap.get? b = some o → h'.get? b = some o) → h'.get? S = some { cls := .type "list", dict := none, data := .seq acc' c', slots := #[] } → PairsAt S h' xs ys acc' (min xs.size ys.size) → R (.ok (.ret res)) { s with heap := h' }) :
    wpAny (model prog w) A.in1 (Builtin.List.listExtendWith (.ref S) (.ref z) res)
      (fun fin s' => match fin with | .done f => R (.ok f) s' | .again c' => c'.quiet = true ∧ codeAny (model prog w) A c' R s') (fun e s' => R (.error e) s') s := by
  obtain ⟨c, hS⟩ := hS
  have hT : s.TypeIs (.ref z) "zip" := ⟨_, hz, rfl⟩
  unfold Builtin.List.listExtendWith
  refine wpAny_bind (wpAny_typeOf hT ?_)
  have e1 : Builtin.List.listSameRef (.ref S) (.ref z) = false := by simp [Builtin.List.listSameRef, hD.1]
  have e2 : (Value.type "zip" == Value.type "list") = false := by decide
  have e3 : (Value.type "zip" == Value.type "tuple") = false := by decide
  simp only [e1, e2, e3, Bool.or_false, Bool.false_eq_true, if_false]
  refine wpAny_bind (wpAny_pyIter_zip hz ?_)
  refine wpAny_bind (wpAny_holding ?_)
  unfold Builtin.List.listLengthHint
  refine wpAny_bind (wpAny_specialOf hT zip_no_len ?_)
  show wpAny _ A.in1 (specialOf (Value.ref z) (Str.ofString "__length_hint__") >>= _) _ _ _
  refine wpAny_bind (wpAny_specialOf hT zip_no_hint ?_)
  refine wpAny_pure ?_
  show wpAny _ A.in1 (rule "list.extend.makes-room" >>= fun _ => Builtin.List.listTouch (.ref S) >>= fun _ =>
    again (.builtin "list.extend.loop" ⟨[.ref S, .ref z, res], []⟩)) _ _ _
  refine wpAny_bind (wpAny_rule ?_)
  refine wpAny_bind ?_
  show wpAny _ A.in1 (updateSeq S (·.push .none) >>= fun _ => updateSeq S (·.pop)) _ _ _
  refine wpAny_bind (wpAny_updateSeq hS rfl ?_)
  have hS2 := Heap.get?_update_self (Obj.mapSeq (·.push Value.none)) hS rfl
  refine wpAny_updateSeq hS2 rfl ?_
  have hS3 := Heap.get?_update_self (Obj.mapSeq (·.pop)) hS2 rfl
  have oth : ∀ b o, b ≠ S → s.heap.get? b = some o → ((s.heap.update S (Obj.mapSeq (·.push Value.none))).update S (Obj.mapSeq (·.pop))).get? b = some o :=
    fun b o hb e => (Heap.get?_update_other _ _ (Ne.symm hb)).trans ((Heap.get?_update_other _ _ (Ne.symm hb)).trans e)
  refine wpAny_pure ⟨plainId_quiet F.plain_extend_loop _, loop_zip hh D hD hn res _ 0 _ #[] _ rfl (Nat.zero_le _) ⟨oth _ _ hD.2.1.symm ti, h1.at fun o e => oth _ o hD.2.2.2.1.symm e, h2.at fun o e => oth _ o hD.2.2.2.2.1.symm e, ?l1, ?l2, .inl ⟨rfl, oth _ _ hD.1.symm hz, a, b, oth _ _ hD.2.2.1.symm to⟩⟩ hS3 ⟨rfl, fun j v e => by simp at e, fun j k v e => by simp at e⟩ fun h' acc' c' kp hS' hacc => ?_⟩
  case l1 => obtain ⟨o, ho, hr⟩ := hl1; exact ⟨o, oth _ _ hD.2.2.2.2.2.1.symm ho, hr⟩
  case l2 => obtain ⟨o, ho, hr⟩ := hl2; exact ⟨o, oth _ _ hD.2.2.2.2.2.2.symm ho, hr⟩
  exact hR h' acc' c' (fun b o n1 n2 n3 n4 n5 e => kp b o n1 n2 n3 n4 n5 (oth b o n1 e)) hS' hacc
theorem init_zip {R : Result → Shared → Prop} (hh : A.handled = none) (D : ZipApart z TI TO i1 i2 l1 l2) (hD : S ≠ z ∧ S ≠ TI ∧ S ≠ TO ∧ S ≠ i1 ∧ S ≠ i2 ∧ S ≠ l1 ∧ S ≠ l2) (hn : min xs.size ys.size ≤ sizeLine)
    (hS : s.heap.get? S = some { cls := .type "list", data := .seq #[] }) {a b : Value} (hz : IsZip s.heap z TI TO .none) (ti : IsPair s.heap TI (.ref i1) (.ref i2)) (to : IsPair s.heap TO a b)
    (h1 : s.heap.IsListIter i1 l1 0) (h2 : s.heap.IsListIter i2 l2 0) (hl1 : s.heap.IsList l1 xs) (hl2 : s.heap.IsList l2 ys)
    (hR : ∀ h' acc' c', (∀ b o, b ≠ S → b ≠ z → b ≠ TO → b ≠ i1 → b ≠ i2 → s.heap.get? b = some o → h'.get? b = some o) → h'.get? S = some { cls := .type "list", dict := none, data := .seq acc' c', slots := #[] } → PairsAt S h' xs ys acc' (min xs.size ys.size) → R (.ok (.ret .none)) { s with heap := h' }) :
    wpAny (model prog w) A.in1 (Builtin.«list.__init__» ⟨[.ref S, .ref z], []⟩)
      (fun fin s' => match fin with | .done f => R (.ok f) s' | .again c' => c'.quiet = true ∧ codeAny (model prog w) A c' R s') (fun e s' => R (.error e) s') s := by
  show wpAny _ _ (do let old ← Builtin.List.listItems (.ref S); Builtin.List.listUpdate (.ref S) (fun _ => #[]); letGo old.toList.reverse; Builtin.List.listExtendWith (.ref S) (.ref z) .none) _ _ s
  refine wpAny_bind ?_
  unfold Builtin.List.listItems
  refine wpAny_bind (wpAny_seqItems hS rfl (wpAny_pure ?_))
  show wpAny _ _ (updateSeq S (fun _ => #[]) >>= fun _ => letGo (#[] : Array Value).toList.reverse >>= fun _ => Builtin.List.listExtendWith (.ref S) (.ref z) .none) _ _ s
  refine wpAny_bind (wpAny_updateSeq hS rfl ?_)
  have hS2 := Heap.get?_update_self (Obj.mapSeq (fun _ => (#[] : Array Value))) hS rfl
  have oth : ∀ b o, b ≠ S → s.heap.get? b = some o → (s.heap.update S (Obj.mapSeq (fun _ => (#[] : Array Value)))).get? b = some o :=
    fun b o hb e => (Heap.get?_update_other _ _ (Ne.symm hb)).trans e
  refine wpAny_bind (wpAny_letGo ?_)
  refine extend_zip (R := R) hh D hD hn ⟨_, hS2⟩ (oth _ _ hD.1.symm hz) (oth _ _ hD.2.1.symm ti) (oth _ _ hD.2.2.1.symm to) (h1.at fun o e => oth _ o hD.2.2.2.1.symm e) (h2.at fun o e => oth _ o hD.2.2.2.2.1.symm e) ?l1 ?l2 .none fun h' acc' c' kp hS' hacc => ?_
  case l1 => obtain ⟨o, ho, hr⟩ := hl1; exact ⟨o, oth _ _ hD.2.2.2.2.2.1.symm ho, hr⟩
  case l2 => obtain ⟨o, ho, hr⟩ := hl2; exact ⟨o, oth _ _ hD.2.2.2.2.2.2.symm ho, hr⟩
  exact hR h' acc' c' (fun b o n1 n2 n3 n4 n5 e => kp b o n1 n2 n3 n4 n5 (oth b o n1 e)) hS' hacc
theorem call_list_zip {Q : Value → Shared → Prop} (hh : A.handled = none) (D : ZipApart z TI TO i1 i2 l1 l2) (hn : min xs.size ys.size ≤ sizeLine)
    {a b : Value} (hz : IsZip s.heap z TI TO .none) (ti : IsPair s.heap TI (.ref i1) (.ref i2)) (to : IsPair s.heap TO a b)
    (h1 : s.heap.IsListIter i1 l1 0) (h2 : s.heap.IsListIter i2 l2 0) (hl1 : s.heap.IsList l1 xs) (hl2 : s.heap.IsList l2 ys)
    (hQ : ∀ h' acc' c', (∀ b o, b ≠ z → b ≠ TO → b ≠ i1 → b ≠ i2 → s.heap.get? b = some o → h'.get? b = some o) → h'.get? s.heap.objs.size = some { cls := .type "list", dict := none, data := .seq acc' c', slots := #[] } → PairsAt s.heap.objs.size h' xs ys acc' (min xs.size ys.size) → Q (.ref s.heap.objs.size) { s with heap := h' }) :
    wpAny (model prog w) A (call (.type "list") [.ref z]) Q E s := by
  refine callType_codes (Q₁ := fun obj s₁ => obj = .ref s.heap.objs.size ∧ s₁ = { s with heap := s.heap.push { cls := .type "list", data := .seq #[] } }) F.called_list (F.typeCall_list_1 _) F.entry_list_init
    (code_list_new _ ⟨rfl, rfl⟩) fun obj s₁ hs => ?_
  obtain ⟨rfl, rfl⟩ := hs
  have hS : (s.heap.push { cls := .type "list", data := .seq #[] }).get? s.heap.objs.size = some { cls := .type "list", data := .seq #[] } := Heap.get?_push_size _ rfl
  have up : ∀ b o, s.heap.get? b = some o → (s.heap.push { cls := .type "list", data := .seq #[] }).get? b = some o := fun b o e => Heap.get?_push_of_some _ e
  have ne : ∀ {b o}, s.heap.get? b = some o → s.heap.objs.size ≠ b := fun e => Nat.ne_of_gt (Heap.lt_size e)
  have n1 : s.heap.objs.size ≠ i1 := by obtain ⟨_, e, _⟩ := h1; exact ne e
  have n2 : s.heap.objs.size ≠ i2 := by obtain ⟨_, e, _⟩ := h2; exact ne e
  have n3 : s.heap.objs.size ≠ l1 := by obtain ⟨_, e, _⟩ := hl1; exact ne e
  have n4 : s.heap.objs.size ≠ l2 := by obtain ⟨_, e, _⟩ := hl2; exact ne e
  refine ⟨⟨_, hS, rfl⟩, F.args_list_init_2 _ _, init_zip (A := A.in1) hh D ⟨ne hz, ne ti, ne to, n1, n2, n3, n4⟩ hn hS (up _ _ hz) (up _ _ ti) (up _ _ to) (h1.at fun o e => up _ o e) (h2.at fun o e => up _ o e) ?l1 ?l2 fun h' acc' c' kp hS' hacc => ?_⟩
  case l1 => obtain ⟨o, ho, hr⟩ := hl1; exact ⟨o, up _ _ ho, hr⟩
  case l2 => obtain ⟨o, ho, hr⟩ := hl2; exact ⟨o, up _ _ ho, hr⟩
  exact ⟨rfl, hQ h' acc' c' (fun b o n2 n3 n4 n5 e => kp b o (Nat.ne_of_lt (Heap.lt_size e)) n2 n3 n4 n5 (up b o e)) hS' hacc⟩
end
end ZK

set_option Elab.async false
set_option linter.all false
set_option maxRecDepth 100000
set_option maxHeartbeats 2000000
/-! list(zip(a, b)) as an expression. -/
namespace ZK
open PySem PySem.Spec PyProof.Rows L2
theorem inv_lay {X : Cx} {pins : List (Addr × Obj)} {σ : L2.St} {H H' : Hp} {s : Shared} {h' : Heap} {t' : Nat} (I : Inv X pins σ H s) (k : ∀ b u, s.heap.get? b = some u → h'.get? b = some u) (hh : ∀ b o, H b = some o → H' b = some o)
    (new : ∀ b o, H b = none → H' b = some o → s.heap.objs.size ≤ b ∧ ObjOk X.prog X.w H' h' b o) : Inv X pins σ H' { s with heap := h', toks := t' } := by
  refine I.un ⟨fun b u q _ _ _ => k b u q, fun b u q _ _ _ => ⟨u.slots, k b u q⟩, fun b u q n _ => ?_, fun b u q _ => ⟨u, k b u q⟩, fun b xs q => hh _ _ q, fun b u xs q => hh _ _ q, fun b ps q => ⟨#[], by rw [hh _ _ q]; simp⟩⟩ fun b o e => ?_
  · cases z : H' b with
    | none => rfl
    | some u' =>
      have := (new b u' n z).1
      exact absurd (Nat.lt_of_lt_of_le (Heap.lt_size q) this) (Nat.lt_irrefl _)
  · cases z : H b with
    | none => exact (new b o z e).2
    | some u =>
      have e2 := hh b u z
      rw [e] at e2
      cases e2
      exact (I.hok b o z).stay (fun c v _ q => k c v q) (fun c q => hh _ _ q) fun c xs q => hh _ _ q
theorem refs_of : ∀ {l : List Value}, (∀ v, v ∈ l → ∃ T, v = .ref T) → ∃ ts : List Addr, l = ts.map Value.ref
  | [], _ => ⟨[], rfl⟩
  | v :: l, h => by
    obtain ⟨T, rfl⟩ := h v List.mem_cons_self
    obtain ⟨ts, rfl⟩ := refs_of (l := l) fun u hu => h u (List.mem_cons_of_mem _ hu)
    exact ⟨T :: ts, rfl⟩
theorem vals_refs : ∀ ts : List Addr, Vals (ts.map V.ref) (ts.map Value.ref)
  | [] => .nil
  | t :: ts => .cons rfl (vals_refs ts)
theorem vals_get : ∀ {xs : List V} {us : List Value} {j : Nat} {u : Value}, Vals xs us → us[j]? = some u → ∃ x, xs[j]? = some x ∧ RelV x u
  | _, _, j, _, .nil, h => by simp at h
  | _, _, 0, _, .cons r _, h => by simp at h; subst h; exact ⟨_, rfl, r⟩
  | _, _, j + 1, u, .cons _ t, h => by
    obtain ⟨x, e, r⟩ := vals_get (j := j) t (by simpa using h)
    exact ⟨x, by simpa using e, r⟩
def tLZ (K : PySem.W.Frag) (ta : TA) : TE := fun σ H Q => ta σ H fun vs H1 => ∃ (a b : Addr) (xs ys : List V), vs = [.ref a, .ref b] ∧ SqL K H1 a xs ∧ SqL K H1 b ys ∧
  ∀ (p : Addr) (ts : List Addr) (H2 : Hp), H1 p = none → ts.length = min xs.length ys.length → (∀ t, t ∈ ts → H1 t = none ∧ t ≠ p) → H2 p = some (.lst (ts.map V.ref)) →
    (∀ (j : Nat) t x y, ts[j]? = some t → xs[j]? = some x → ys[j]? = some y → H2 t = some (.tup [x, y])) → (∀ c, c ≠ p → c ∉ ts → H2 c = H1 c) → Q (.ref p) H2
open Classical in
/-- the heap behind: the list, the pairs -/
noncomputable def layZ (H1 : Hp) (p : Addr) (ts : List Addr) (xs ys : List V) : Hp := fun c =>
  if c = p then some (.lst (ts.map V.ref)) else
  if h : ∃ (j : Nat) (x y : V), ts[j]? = some c ∧ xs[j]? = some x ∧ ys[j]? = some y then some (.tup [choose (choose_spec h), choose (choose_spec (choose_spec h))]) else H1 c
theorem layZ_p {H1 : Hp} {p : Addr} {ts : List Addr} {xs ys : List V} : layZ H1 p ts xs ys p = some (.lst (ts.map V.ref)) := if_pos rfl
theorem layZ_t {H1 : Hp} {p c : Addr} {ts : List Addr} {xs ys : List V} (hp : c ≠ p) (nd : ∀ (j k : Nat) t, ts[j]? = some t → ts[k]? = some t → j = k) {j : Nat} {x y : V} (h1 : ts[j]? = some c) (h2 : xs[j]? = some x) (h3 : ys[j]? = some y) : layZ H1 p ts xs ys c = some (.tup [x, y]) := by
  unfold layZ
  rw [if_neg hp]
  have h : ∃ (j : Nat) (x y : V), ts[j]? = some c ∧ xs[j]? = some x ∧ ys[j]? = some y := ⟨j, x, y, h1, h2, h3⟩
  rw [dif_pos h]
  obtain ⟨a1, a2, a3⟩ := Classical.choose_spec (Classical.choose_spec (Classical.choose_spec h))
  have e := nd _ _ _ a1 h1
  have b2 := Option.some.inj (h2.symm.trans ((congrArg (fun k => xs[k]?) e).symm.trans a2))
  have b3 := Option.some.inj (h3.symm.trans ((congrArg (fun k => ys[k]?) e).symm.trans a3))
  have two : ∀ {u u' v v' : V}, u = u' → v = v' → (some (HO.tup [u', v']) : Option HO) = some (HO.tup [u, v]) := fun a b => by rw [a, b]
  exact two b2 b3
theorem layZ_o {H1 : Hp} {p c : Addr} {ts : List Addr} {xs ys : List V} (hp : c ≠ p) (hc : c ∉ ts) : layZ H1 p ts xs ys c = H1 c := by
  unfold layZ
  rw [if_neg hp, dif_neg]
  rintro ⟨j, x, y, h, _⟩
  exact hc (List.mem_of_getElem? h)
theorem layZ_new {H1 : Hp} {p c : Addr} {ts : List Addr} {xs ys : List V} {o : HO} (h : layZ H1 p ts xs ys c = some o) (hn : H1 c = none) : c = p ∨ ∃ (j : Nat) (x y : V), c ≠ p ∧ ts[j]? = some c ∧ xs[j]? = some x ∧ ys[j]? = some y := by
  by_cases hp : c = p
  · exact .inl hp
  · unfold layZ at h
    rw [if_neg hp] at h
    split at h
    · rename_i q
      obtain ⟨j, x, y, a1, a2, a3⟩ := q
      exact .inr ⟨j, x, y, hp, a1, a2, a3⟩
    · rw [hn] at h; cases h
theorem pe_listZip {X : Cx} {nl nz : Str} {pl pz pos zpos : Pos} {e e2 : Expr} {ta : TA} (hc : X.calm = true) (hgl : Gl X nl) (hml : X.mg nl = none) (hvl : bootBuiltins nl = some (.type "list")) (hgz : Gl X nz) (hmz : X.mg nz = none) (hvz : bootBuiltins nz = some (.type "zip"))
    (ha : PA X [e, e2] ta) (hnl : nl ≠ "__name__" := by decide) (hdl : (nl == ("__debug__" : Str)) = false := by decide) (hnz : nz ≠ "__name__" := by decide) (hdz : (nz == ("__debug__" : Str)) = false := by decide)
    (hs : starEach [e, e2] X.env = (false, eval e X.env) :: starEach [e2] X.env := by rfl) (hpl : (backTo zpos (starEach [e2] X.env)).any (·.1) = false := by rfl)
    (hs0 : starEach [.Call (.Name nz pz) [e, e2] [] zpos] X.env = [(false, eval (.Call (.Name nz pz) [e, e2] [] zpos) X.env)] := by rfl) :
    PE X (.Call (.Name nl pl) [.Call (.Name nz pz) [e, e2] [] zpos] [] pos) (tLZ X.K ta) := by
  refine ⟨fun pins s σ H Q I h => ?_⟩
  refine wpAny_Call_Name_kw (ld_blt I hgl hml hvl ?_ hnl hdl)
  refine PyProof.Rows.callWith_type1 ?_ (by rw [hs0]; rfl) rfl
  rw [hs0]
  show wpAny _ _ (spliced ((false, eval (.Call (.Name nz pz) [e, e2] [] zpos) X.env) :: [])) _ _ s
  refine Calls.spliced_cons ?_
  refine wpAny_Call_Name_kw (ld_blt I hgz hmz hvz ?_ hnz hdz)
  refine PyProof.Rows.callWith_type1 (thn (ha.run zpos pins s σ H _ I h) fun us s1 ⟨vs, H1, I1, r1, q1⟩ => ?_) hs hpl
  obtain ⟨a, b, xs, ys, ex, hqx, hqy, q⟩ := q1
  subst ex
  cases r1 with
  | cons r rr =>
    cases rr with
    | cons r' rr =>
      cases rr
      cases r
      cases r'
      obtain ⟨its, rv, p1, z1⟩ := I1.list hqx
      obtain ⟨its2, rv2, p2, z2⟩ := I1.list hqy
      have la : a < s1.heap.objs.size := p1.lt
      have lb : b < s1.heap.objs.size := p2.lt
      refine call_zip_2 p1.isList p2.isList fun h' hz hTI hTO h1 h2 hsz hk => Calls.spliced_nil ?_
      have l1 : h'.IsList a its.toArray := by obtain ⟨o, ho, hr⟩ := p1.isList; exact ⟨o, hk _ _ ho, hr⟩
      have l2 : h'.IsList b its2.toArray := by obtain ⟨o, ho, hr⟩ := p2.isList; exact ⟨o, hk _ _ ho, hr⟩
      have len1 := rv.length
      have len2 := rv2.length
      have hn : min its.toArray.size its2.toArray.size ≤ sizeLine := by
        simp only [List.size_toArray]
        omega
      refine call_list_zip (s := { s1 with heap := h' }) (I1.ok.hd hc) (PySem.W.ktu_apart s1.heap.objs.size a b la lb) hn hz hTI hTO h1 h2 l1 l2 fun h'' acc' c' kp hS hacc => ?_
      have hN : s1.heap.objs.size ≤ h'.objs.size := by rw [hsz]; exact Nat.le_add_right _ _
      have hS : h''.get? h'.objs.size = some { cls := .type "list", data := .seq acc' c' } := hS
      have hacc : PairsAt h'.objs.size h'' its.toArray its2.toArray acc' (min its.toArray.size its2.toArray.size) := hacc
      obtain ⟨ts, hts⟩ := refs_of (l := acc'.toList) fun v hv => by
        obtain ⟨j, hj, e⟩ := List.getElem_of_mem hv
        obtain ⟨T, x, y, e1, _⟩ := hacc.2.1 j v (by rw [← Array.getElem?_toList, List.getElem?_eq_getElem hj, e])
        exact ⟨T, e1⟩
      have tget : ∀ (j : Nat) t, ts[j]? = some t → acc'[j]? = some (.ref t) := fun j t e => by
        rw [← Array.getElem?_toList, hts, List.getElem?_map, e]
        rfl
      have tsl : ts.length = min xs.length ys.length := by
        have e1 : acc'.toList.length = ts.length := by rw [hts, List.length_map]
        rw [← e1, Array.length_toList, hacc.1]
        simp only [List.size_toArray]
        rw [len1, len2]
      have tnew : ∀ t, t ∈ ts → h'.objs.size < t := fun t ht => by
        obtain ⟨j, hj, e⟩ := List.getElem_of_mem ht
        obtain ⟨T, x, y, e1, e0, _⟩ := hacc.2.1 j (.ref t) (tget j t (by rw [List.getElem?_eq_getElem hj, e]))
        cases e1
        exact e0
      have nd : ∀ (j k : Nat) t, ts[j]? = some t → ts[k]? = some t → j = k := fun j k t a1 a2 => hacc.2.2 j k _ (tget j t a1) (tget k t a2)
      have fS : H1 h'.objs.size = none := I1.hok.fresh hN
      have fT : ∀ t, t ∈ ts → H1 t = none ∧ t ≠ h'.objs.size := fun t ht => ⟨I1.hok.fresh (Nat.le_trans hN (Nat.le_of_lt (tnew t ht))), Nat.ne_of_gt (tnew t ht)⟩
      have old : ∀ b u, s1.heap.get? b = some u → h''.get? b = some u := fun b u e => by
        have lt := Heap.lt_size e
        exact kp b u (Nat.ne_of_lt (Nat.lt_of_lt_of_le lt (Nat.le_add_right _ _))) (Nat.ne_of_lt (Nat.lt_of_lt_of_le lt (Nat.le_add_right _ _))) (Nat.ne_of_lt lt) (Nat.ne_of_lt (Nat.lt_of_lt_of_le lt (Nat.le_add_right _ _))) (hk b u e)
      have I2 : L2.Inv X pins σ (layZ H1 h'.objs.size ts xs ys) { s1 with heap := h'' } := by
        refine inv_lay (t' := s1.toks) I1 old (fun b o e => ?_) fun b o hn0 e => ?_
        · rw [layZ_o (fun z => by rw [z, fS] at e; cases e) (fun z => by rw [(fT b z).1] at e; cases e)]
          exact e
        · rcases layZ_new e hn0 with rfl | ⟨j, x, y, hp, a1, a2, a3⟩
          · rw [layZ_p] at e
            cases e
            refine ⟨hN, ?_, acc'.toList, c', ?_, ?_⟩
            · rw [List.length_map, tsl]; omega
            · rw [hts]; exact vals_refs ts
            · rw [Array.toArray_toList]; exact hS
          · rw [layZ_t hp nd a1 a2 a3] at e
            cases e
            obtain ⟨T, u1, u2, e1, e0, e2, e3, e4⟩ := hacc.2.1 j _ (tget j b a1)
            cases e1
            obtain ⟨x', g1, g2⟩ := vals_get (j := j) (u := u1) rv (by simpa using e3)
            obtain ⟨y', g3, g4⟩ := vals_get (j := j) (u := u2) rv2 (by simpa using e4)
            rw [a2] at g1
            rw [a3] at g3
            cases g1
            cases g3
            exact ⟨Nat.le_trans hN (Nat.le_of_lt e0), by show 2 ≤ sizeLine; decide, [u1, u2], .cons g2 (.cons g4 .nil), _, e2, rfl, _, rfl⟩
      exact ⟨.ref h'.objs.size, _, I2, rfl, q h'.objs.size ts _ fS tsl fT layZ_p (fun j t x y a1 a2 a3 => layZ_t (fT t (List.mem_of_getElem? a1)).2 nd a1 a2 a3) fun c c1 c2 => layZ_o c1 c2⟩
end ZK

set_option Elab.async false
set_option linter.all false
set_option maxRecDepth 100000
set_option maxHeartbeats 2000000
/-! The data layer: list(zip(a, b)). -/
namespace DL
open PySem PySem.Spec PyProof.Rows L2
theorem repL_of {K : PySem.W.Frag} {fa : Option FA} {F : Hp} : ∀ {ds : List D} {vs : List V}, ds.length = vs.length → (∀ (j : Nat) d v, ds[j]? = some d → vs[j]? = some v → Rep K fa F d v) → RepL K fa F ds vs
  | [], [], _, _ => .nil
  | [], _ :: _, h, _ => by simp at h
  | _ :: _, [], h, _ => by simp at h
  | d :: ds, v :: vs, h, k => .cons (k 0 d v rfl rfl) (repL_of (by simpa using h) fun j d' v' a b => k (j + 1) d' v' (by simpa using a) (by simpa using b))
theorem zipD_lenA : ∀ xs ys : List D, (zipD xs ys).length = min xs.length ys.length
  | [], ys => by simp [zipD]
  | x :: xs, [] => by simp [zipD]
  | x :: xs, y :: ys => by simp [zipD, zipD_lenA xs ys]
theorem zipD_getA : ∀ {xs ys : List D} {j : Nat} {d : D}, (zipD xs ys)[j]? = some d → ∃ x y, xs[j]? = some x ∧ ys[j]? = some y ∧ d = .tup [x, y]
  | [], ys, j, d, h => by simp [zipD] at h
  | x :: xs, [], j, d, h => by simp [zipD] at h
  | x :: xs, y :: ys, 0, d, h => by simp [zipD] at h; exact ⟨x, y, rfl, rfl, h.symm⟩
  | x :: xs, y :: ys, j + 1, d, h => by
    obtain ⟨a, b, h1, h2, h3⟩ := zipD_getA (xs := xs) (ys := ys) (j := j) (d := d) (by simpa [zipD] using h)
    exact ⟨a, b, by simpa using h1, by simpa using h2, h3⟩
def zipLD : List D → Option D
  | [.lst xs, .lst ys] => some (.lst (zipD xs ys))
  | _ => none
section
variable {X : Cx} {fa : Option FA} {W : L2.St → XK} {fl : Env' → M (List D)}
open Classical in
theorem ed_listZip {nl nz : Str} {pl pz pos zpos : Pos} {e e2 : Expr} (hc : X.calm = true) (hml : X.mg nl = none) (hmz : X.mg nz = none) (ha : LD X fa W [e, e2] fl) (hgl : Gl X nl := by rfl) (hvl : bootBuiltins nl = some (.type "list") := by decide +kernel) (hgz : Gl X nz := by rfl) (hvz : bootBuiltins nz = some (.type "zip") := by decide +kernel)
    (hnl : nl ≠ "__name__" := by decide) (hdl : (nl == ("__debug__" : Str)) = false := by decide) (hnz : nz ≠ "__name__" := by decide) (hdz : (nz == ("__debug__" : Str)) = false := by decide)
    (hs : starEach [e, e2] X.env = (false, eval e X.env) :: starEach [e2] X.env := by rfl) (hpl : (backTo zpos (starEach [e2] X.env)).any (·.1) = false := by rfl)
    (hs0 : starEach [.Call (.Name nz pz) [e, e2] [] zpos] X.env = [(false, eval (.Call (.Name nz pz) [e, e2] [] zpos) X.env)] := by rfl) :
    ED X fa W (.Call (.Name nl pl) [.Call (.Name nz pz) [e, e2] [] zpos] [] pos) (dFn zipLD fl) := by
  obtain ⟨ta, pa, ka⟩ := ha
  refine ⟨_, ZK.pe_listZip hc hgl hml hvl hgz hmz hvz pa hnl hdl hnz hdz hs hpl hs0, fun σ F H ρ s Q h1 h2 h3 h => ?_⟩
  refine ka.then Good.tgt h1 h2 h3 h fun ds s1 vs F1 H1 e1 o1 r1 v1 h' => ?_
  have h' := Good.lift h'
  cases r1 with
  | nil => exact h'.elim
  | cons ra t =>
    cases t with
    | nil => cases ra <;> exact h'.elim
    | cons rb t =>
      cases t with
      | cons _ _ => cases ra <;> cases rb <;> exact h'.elim
      | nil =>
        cases ra with
        | @lst a xs us ha ra =>
          cases rb with
          | @lst b ys ws hb rb =>
            refine ⟨a, b, us, ws, rfl, SqL.of (e1.fh _ _ ha), SqL.of (e1.fh _ _ hb), fun p ts H2 hp hl ht hP hT hO => ?_⟩
            have fp : F1 p = none := Same.free e1.fh hp
            have ft : ∀ t, t ∈ ts → F1 t = none := fun t h => Same.free e1.fh (ht t h).1
            have oldH : ∀ c, H1 c ≠ none → H2 c = H1 c := fun c hc => hO c (fun z => hc (z ▸ hp)) fun z => hc (ht c z).1
            let F2 : Hp := fun c => if c = p ∨ c ∈ ts then H2 c else F1 c
            have f2n : ∀ c, (c = p ∨ c ∈ ts) → F2 c = H2 c := fun c hc => if_pos hc
            have f2o : ∀ c, H1 c ≠ none → F2 c = F1 c := fun c hc => if_neg fun z => z.elim (fun z => hc (z ▸ hp)) fun z => hc (ht c z).1
            have sf : Same F1 F2 := fun c o ec => by
              rw [f2o c (by rw [e1.fh _ _ ec]; simp)]; exact ec
            have ex : Ext fa F1 H1 F2 H2 := by
              refine ⟨sf, fun c o ec => ?_, fun c o ec _ => by rw [oldH c (by rw [ec]; simp)]; exact ec, fun c hc => f2o c hc, fun c hc => by rw [oldH c hc]; exact hc⟩
              by_cases hc : c = p ∨ c ∈ ts
              · rw [f2n c hc] at ec; exact ec
              · have e0 : F1 c = some o := by
                  have : F2 c = F1 c := if_neg hc
                  rw [← this]; exact ec
                have e2 := e1.fh _ _ e0
                rw [oldH c (by rw [e2]; simp)]; exact e2
            refine h' (.ref p) F2 H2 ex (o1.ext_same sf (fun c o ec => by rw [oldH c (by rw [ec]; simp)]; exact ec) fun c hc => f2o c hc) (.lst (by rw [f2n p (.inl rfl)]; exact hP) (repL_of (by rw [zipD_lenA, List.length_map, hl, ra.length, rb.length]) fun j d v hd hv => ?_))
            obtain ⟨x, y, hx, hy, rfl⟩ := zipD_getA hd
            rw [List.getElem?_map] at hv
            cases q : ts[j]? with
            | none => rw [q] at hv; cases hv
            | some t =>
              rw [q] at hv
              cases hv
              obtain ⟨u, hu, ru⟩ := ra.get' hx
              obtain ⟨w, hw, rw'⟩ := rb.get' hy
              refine .tup (.inl (.inl ?_)) (.cons (ru.mono sf) (.cons (rw'.mono sf) .nil))
              rw [f2n t (.inr (List.mem_of_getElem? q))]
              exact hT j t u w q hu hw
          | _ => exact h'.elim
        | _ => cases rb <;> exact h'.elim
end
end DL

set_option Elab.async false
set_option linter.all false
set_option maxRecDepth 100000
set_option maxHeartbeats 2000000
/-! The data layer: instances: their attributes, properties, methods; instances made. -/
namespace DL
open PySem PySem.Spec PyProof.Rows L2

/-! ### the heap's attributes as data -/
section
variable {K : PySem.W.Frag} {fa : Option FA} {F H : Hp}
theorem RepF.look {f : Str} : ∀ {fs : List (Str × D)} {vs : List (Str × V)}, RepF K fa F fs vs → (∀ d, fs.lookup f = some d → ∃ v, vs.lookup f = some v ∧ Rep K fa F d v) ∧ (fs.lookup f = none → vs.lookup f = none)
  | _, _, .nil => ⟨fun d h => by simp at h, fun _ => rfl⟩
  | _, _, .cons (k := k) (d := d0) (ds := ds) r t => by
    obtain ⟨h1, h2⟩ := RepF.look (f := f) t
    refine ⟨fun d h => ?_, fun h => ?_⟩
    · rw [List.lookup_cons] at h ⊢
      split at h
      · cases h; exact ⟨_, rfl, r⟩
      · exact h1 d h
    · rw [List.lookup_cons] at h ⊢
      split at h
      · cases h
      · exact h2 h
theorem RepF.length : ∀ {fs : List (Str × D)} {vs : List (Str × V)}, RepF K fa F fs vs → vs.length = fs.length
  | _, _, .nil => rfl
  | _, _, .cons _ t => congrArg (· + 1) (RepF.length t)
def putFD (f : Str) (x : D) : List (Str × D) → List (Str × D)
  | [] => [(f, x)]
  | (g, y) :: r => if g = f then (g, x) :: r else (g, y) :: putFD f x r
theorem RepF.put {f : Str} {x : D} {v : V} (rx : Rep K fa F x v) : ∀ {fs : List (Str × D)} {vs : List (Str × V)}, RepF K fa F fs vs → RepF K fa F (putFD f x fs) (putF f v vs)
  | _, _, .nil => .cons rx .nil
  | _, _, .cons (k := k) r t => by
    unfold putFD putF
    by_cases h : k = f
    · rw [if_pos h, if_pos h]; exact .cons rx t
    · rw [if_neg h, if_neg h]; exact .cons r (RepF.put rx t)
theorem putFD_len {f : Str} {x : D} : ∀ fs : List (Str × D), (putFD f x fs).length ≤ fs.length + 1
  | [] => Nat.le_refl _
  | (g, y) :: r => by
    unfold putFD
    split
    · simp
    · have := putFD_len (f := f) (x := x) r
      simp only [List.length_cons]
      omega
end

/-! ### e.f -/
/-- what stands for an attribute: the object's own, a constant of the class, a property -/
inductive AK where
  | fld
  | con (d : D)
  | prop (g : List D → M D)
/-- the class of that name has the attribute f so -/
def AOk (P : Program) (w : World) (K : PySem.W.Frag) (mg : Str → Option Value) (base : Heap) (k : Nat) (c f : Str) (ak : AK) : Prop := ∃ C, PySem.W.nsIn K mainGlobals c = some (some (.ref C)) ∧ Cls K C ∧ match ak with
  | .fld => NoAttr K C f
  | .con d => ∃ v u, Con K C f v u ∧ ∀ fa F, Rep K fa F d v
  | .prop g => ∃ p gf fd ps, PropOf K C f p gf ∧ FnOk P w K mg base (L2.CX P w) k gf fd ps (DSp K mg g) ∧ Binds K fd ps []
def attrD (tab : List (Str × AK)) (f : Str) : D → M D
  | .ins c fs => match tab.lookup c with
    | some .fld => M.lift (fs.lookup f)
    | some (.con d) => if (fs.lookup f).isNone = true then M.pure d else M.bad
    | some (.prop g) => M.quiet (g [.ins c fs])
    | none => M.bad
  | _ => M.bad
def dAttr (tab : List (Str × AK)) (f : Str) (f1 : Env' → M D) : Env' → M D := fun ρ => (f1 ρ).bind (attrD tab f)
section
variable {X : Cx} {fa : Option FA} {W : L2.St → XK} {e o : Expr} {es : List Expr} {pos p apos : Pos} {f1 : Env' → M D} {fl fk : Env' → M (List D)} {f m : Str} {k : Nat} {ta : TE} {t tk : TA} {kws : List Keyword}
def tAttr (X : Cx) (k : Nat) (ta : TE) (f : Str) : TE := fun σ H Q => ta σ H fun x H1 => ∃ a C dx fs, x = .ref a ∧ H1 a = some (.ins C dx fs) ∧ Cls X.K C ∧
  ((NoAttr X.K C f ∧ ∃ v, fs.lookup f = some v ∧ Q v H1) ∨ (∃ v u, Con X.K C f v u ∧ fs.lookup f = none ∧ Q v H1) ∨
   (∃ p g fd ps sp, PropOf X.K C f p g ∧ FnOk X.prog X.w X.K X.mg X.base (L2.CX X.prog X.w) k g fd ps sp ∧ Binds X.K fd ps [] ∧ sp [.ref a] H1 Q (fun _ _ _ => False)))
theorem pe_attrA (he : PE X e ta) (hr : Room (k + 1) X.A) (hb : attributeBase e f X.env (eval e X.env) = eval e X.env) : PE X (.Attribute e f pos) (tAttr X k ta f) := by
  refine ⟨fun pins s σ H Q I h => ?_⟩
  refine attr_of hb (thn (he.run pins s σ H _ I h) fun u s1 ⟨x, H1, I1, rx, a, C, dx, fs, ex, ea, c, q⟩ => ?_)
  subst ex
  obtain rfl : u = Value.ref a := rx
  rcases q with ⟨n, v, l, q⟩ | ⟨v, u0, k0, l, q⟩ | ⟨p, g, fd, ps, sp, hp, F, hbb, q⟩
  · exact getattr_ok I1 ea c n l fun u' s2 I2 ru => ⟨v, H1, I2, ru, q⟩
  · exact getcon_ok I1 ea c k0 l fun s2 I2 => ⟨v, H1, I2, k0.rel, q⟩
  · exact getprop_ok I1 ea c hp F hr hbb .nil (passF (X := X.nox)) q
theorem quiet_good {F H : Hp} {m : M D} {s : FS} {Q : VK} {W1 W2 : XK} (h : Good X fa W1 F H (M.quiet m s) Q) : Good X fa W2 F H (m s) Q := by
  unfold M.quiet at h
  cases q : m s with
  | bad => rw [q] at h; exact h
  | err e s' => rw [q] at h; exact h.elim
  | ok d s' => rw [q] at h; exact h
theorem lookup_mem {α β : Type} [BEq α] [LawfulBEq α] {a : α} {b : β} : ∀ {l : List (α × β)}, l.lookup a = some b → (a, b) ∈ l
  | [], h => by simp at h
  | (x, y) :: r, h => by
    rw [List.lookup_cons] at h
    split at h
    · rename_i e
      cases h
      rw [eq_of_beq e]
      exact List.mem_cons_self
    · exact List.mem_cons_of_mem _ (lookup_mem h)
theorem ed_attr {tab : List (Str × AK)} (hr : Room (k + 1) X.A) (ht : ∀ q ∈ tab, AOk X.prog X.w X.K X.mg X.base k q.1 f q.2) (ha : ED X fa W e f1) (hb : attributeBase e f X.env (eval e X.env) = eval e X.env := by rfl) : ED X fa W (.Attribute e f pos) (dAttr tab f f1) := by
  obtain ⟨ta, pa, ka⟩ := ha
  refine ⟨_, pe_attrA pa hr hb, fun σ F H ρ s Q h1 h2 h3 h => ?_⟩
  refine ka.then Good.tgt h1 h2 h3 h fun x s1 v F1 H1 e1 o1 r1 v1 h' => ?_
  cases r1 with
  | @ins a C dx c fs vs g n r =>
    unfold attrD at h'
    dsimp only at h'
    cases q : tab.lookup c with
    | none => rw [q] at h'; exact h'.elim
    | some ak =>
      rw [q] at h'
      obtain ⟨C', n', cc, z⟩ := ht _ (lookup_mem q)
      have : C' = C := by
        rw [n] at n'
        cases n'
        rfl
      subst this
      refine ⟨a, C', dx, vs, rfl, e1.fh _ _ g, cc, ?_⟩
      cases ak with
      | fld =>
        refine .inl ⟨z, ?_⟩
        dsimp only at h'
        cases l : fs.lookup f with
        | none => rw [l] at h'; exact h'.elim
        | some d =>
          rw [l] at h'
          obtain ⟨v, lv, rv⟩ := (r.look (f := f)).1 d l
          exact ⟨v, lv, Good.here e1.fh o1 rv h'⟩
      | con d =>
        obtain ⟨v, u, k0, rv⟩ := z
        refine .inr (.inl ⟨v, u, k0, ?_⟩)
        dsimp only at h'
        cases l : fs.lookup f with
        | some d => rw [l] at h'; exact h'.elim
        | none =>
          rw [l] at h'
          exact ⟨(r.look (f := f)).2 l, Good.here e1.fh o1 (rv _ _) h'⟩
      | prop g' =>
        obtain ⟨p, gf, fd, ps, hp, Fn, hbb⟩ := z
        refine .inr (.inr ⟨p, gf, fd, ps, _, hp, Fn, hbb, fa, F1, s1, [.ins c fs], e1.fh, o1, .cons (.ins g n r) .nil, ?_⟩)
        exact quiet_good h'
  | _ => exact h'.elim

/-! ### o.m(..) -/
def MOk (P : Program) (w : World) (K : PySem.W.Frag) (mg : Str → Option Value) (base : Heap) (k : Nat) (c m : Str) (g : List D → M D) : Prop := ∃ C f fd ps, PySem.W.nsIn K mainGlobals c = some (some (.ref C)) ∧ Cls K C ∧ Meth K C m f ∧ FnOk P w K mg base (L2.CX P w) k f fd ps (DSp K mg g) ∧ Binds K fd ps []
def methOf (tab : List (Str × (List D → M D))) (m : Str) : D → Option (List D → M D)
  | .ins c fs => match tab.lookup c with
    | some g => if (fs.lookup m).isNone = true then some g else none
    | none => none
  | _ => none
def dMeth (tab : List (Str × (List D → M D))) (m : Str) (f1 : Env' → M D) (fl : Env' → M (List D)) : Env' → M D := fun ρ => (f1 ρ).bind fun x => (M.lift (methOf tab m x)).bind fun g => (fl ρ).bind fun xs => g (x :: xs)
def tMethA (X : Cx) (k : Nat) (m : Str) (W : L2.St → XK) (ta : TE) (t : TA) : TE := fun σ H Q => ta σ H fun x H1 => ∃ a C dx fs, x = .ref a ∧ H1 a = some (.ins C dx fs) ∧ ∃ f fd ps sp, Cls X.K C ∧ Meth X.K C m f ∧ FnOk X.prog X.w X.K X.mg X.base (L2.CX X.prog X.w) k f fd ps sp ∧ Binds X.K fd ps [] ∧ fs.lookup m = none ∧ t σ H1 fun vs H2 => sp (x :: vs) H2 Q (W σ)
theorem pe_methA {pl : Sem Bool} (he : PE X o ta) (hr : Room k X.A) (hx : ∀ σ, PassesAt (L2.CX X.prog X.w) X σ (W σ)) (ha : PA X (e :: es) t)
    (hst : starEach (e :: es) X.env = (false, eval e X.env) :: starEach es X.env := by rfl) (hpl : (backTo pos (starEach es X.env)).any (·.1) = false := by rfl)
    (ht : eval (.Call (.Attribute o m apos) (e :: es) [] pos) X.env = (do
      let ov ← eval o X.env
      standAt apos.atName
      let (f, first) ← holding [ov] (getMethod ov m pl)
      callWith pos f first (backTo pos (starEach (e :: es) X.env)) (backToKw pos (keywordEach [] X.env))) := by rfl) :
    PE X (.Call (.Attribute o m apos) (e :: es) [] pos) (tMethA X k m W ta t) := by
  refine ⟨fun pins s σ H Q I h => ?_⟩
  refine PySem.W.methodCall_KW (pl := pl) (thn (he.run pins s σ H _ I h) fun u s1 ⟨x, H1, I1, rx, a, C, dx, fs, ex, ea, f, fd, ps, sp, c, hm, F, hb, l, q⟩ => ?_) ht
  subst ex
  obtain rfl : u = Value.ref a := rx
  refine getmeth_ok I1 ea c hm l ?_
  refine PySem.W.callWith_K (first := [.ref a]) (h₀ := X.base) I.ok.mod.kin hm.kp (thn (ha.run pos pins s1 σ H1 _ I1 q) fun us s2 ⟨vs, H2, I2, r, q2⟩ => ⟨I2.kIn, ?_⟩) hst hpl
  exact run_fnS (us := .ref a :: us) (vs := .ref a :: vs) F hr hb (hx σ) I2 (.cons rfl r) q2
theorem pe_methA0 {pl : Sem Bool} (he : PE X o ta) (hr : Room k X.A) (hx : ∀ σ, PassesAt (L2.CX X.prog X.w) X σ (W σ))
    (ht : eval (.Call (.Attribute o m apos) [] [] pos) X.env = (do
      let ov ← eval o X.env
      standAt apos.atName
      let (f, first) ← holding [ov] (getMethod ov m pl)
      callWith pos f first (backTo pos (starEach [] X.env)) (backToKw pos (keywordEach [] X.env))) := by rfl) :
    PE X (.Call (.Attribute o m apos) [] [] pos) (tMethA X k m W ta tNil) := by
  refine ⟨fun pins s σ H Q I h => ?_⟩
  refine PySem.W.methodCall_KW (pl := pl) (thn (he.run pins s σ H _ I h) fun u s1 ⟨x, H1, I1, rx, a, C, dx, fs, ex, ea, f, fd, ps, sp, c, hm, F, hb, l, q⟩ => ?_) ht
  subst ex
  obtain rfl : u = Value.ref a := rx
  refine getmeth_ok I1 ea c hm l ?_
  exact PySem.W.callWith_K0 (first := [.ref a]) I1.kIn hm.kp (run_fnS (us := [.ref a]) (vs := [.ref a]) F hr hb (hx σ) I1 (.cons rfl .nil) q)
theorem meth_of {tab : List (Str × (List D → M D))} {F H : Hp} {x : D} {v : V} {g : List D → M D} (h1 : Same F H) (ht : ∀ q ∈ tab, MOk X.prog X.w X.K X.mg X.base k q.1 m q.2) (h : methOf tab m x = some g) (r : Rep X.K fa F x v) :
    ∃ a C dx fs, v = .ref a ∧ H a = some (.ins C dx fs) ∧ ∃ f fd ps, Cls X.K C ∧ Meth X.K C m f ∧ FnOk X.prog X.w X.K X.mg X.base (L2.CX X.prog X.w) k f fd ps (DSp X.K X.mg g) ∧ Binds X.K fd ps [] ∧ fs.lookup m = none := by
  cases r with
  | @ins a C dx c fs vs ga n r =>
    unfold methOf at h
    dsimp only at h
    cases q : tab.lookup c with
    | none => rw [q] at h; cases h
    | some g0 =>
      rw [q] at h
      dsimp only at h
      cases l : fs.lookup m with
      | some d => rw [l] at h; cases h
      | none =>
        rw [l] at h
        cases h
        obtain ⟨C', f, fd, ps, n', cc, hm, Fn, hb⟩ := ht _ (lookup_mem q)
        have : C' = C := by
          rw [n] at n'
          cases n'
          rfl
        subst this
        exact ⟨a, C', dx, vs, rfl, h1 _ _ ga, f, fd, ps, cc, hm, Fn, hb, (r.look (f := m)).2 l⟩
  | _ => cases h
theorem ed_meth {tab : List (Str × (List D → M D))} {pl : Sem Bool} (hr : Room k X.A) (hx : ∀ σ, PassesAt (L2.CX X.prog X.w) X σ (W σ)) (ht : ∀ q ∈ tab, MOk X.prog X.w X.K X.mg X.base k q.1 m q.2) (ho : ED X fa W o f1) (ha : LD X fa W (e :: es) fl)
    (hst : starEach (e :: es) X.env = (false, eval e X.env) :: starEach es X.env := by rfl) (hpl : (backTo pos (starEach es X.env)).any (·.1) = false := by rfl)
    (hc : eval (.Call (.Attribute o m apos) (e :: es) [] pos) X.env = (do
      let ov ← eval o X.env
      standAt apos.atName
      let (f, first) ← holding [ov] (getMethod ov m pl)
      callWith pos f first (backTo pos (starEach (e :: es) X.env)) (backToKw pos (keywordEach [] X.env))) := by rfl) :
    ED X fa W (.Call (.Attribute o m apos) (e :: es) [] pos) (dMeth tab m f1 fl) := by
  obtain ⟨to, po, ko⟩ := ho
  obtain ⟨ta, pa, ka⟩ := ha
  refine ⟨_, pe_methA po hr hx pa hst hpl hc, fun σ F H ρ s Q h1 h2 h3 h => ?_⟩
  refine ko.then Good.tgt h1 h2 h3 h fun x s1 v F1 H1 e1 o1 r1 v1 h' => ?_
  change Good X fa (W σ) F1 H1 (((M.lift (methOf tab m x)).bind _) s1) Q at h'
  cases q : methOf tab m x with
  | none => rw [q] at h'; exact h'.elim
  | some g =>
    rw [q] at h'
    obtain ⟨a, C, dx, fs, rfl, ea, f, fd, ps, cc, hm, Fn, hb, l⟩ := meth_of e1.fh ht q r1
    refine ⟨a, C, dx, fs, rfl, ea, f, fd, ps, _, cc, hm, Fn, hb, l, ?_⟩
    refine ka.then Good.tgt e1.fh o1 v1 h' fun xs s2 w F2 H2 e2 o2 r2 v2 h'' => ?_
    exact ⟨fa, F2, s2, x :: xs, e2.fh, o2, .cons (r1.mono e2.ff) r2, h''⟩
theorem ed_meth0 {tab : List (Str × (List D → M D))} {pl : Sem Bool} (hr : Room k X.A) (hx : ∀ σ, PassesAt (L2.CX X.prog X.w) X σ (W σ)) (ht : ∀ q ∈ tab, MOk X.prog X.w X.K X.mg X.base k q.1 m q.2) (ho : ED X fa W o f1)
    (hc : eval (.Call (.Attribute o m apos) [] [] pos) X.env = (do
      let ov ← eval o X.env
      standAt apos.atName
      let (f, first) ← holding [ov] (getMethod ov m pl)
      callWith pos f first (backTo pos (starEach [] X.env)) (backToKw pos (keywordEach [] X.env))) := by rfl) :
    ED X fa W (.Call (.Attribute o m apos) [] [] pos) (dMeth tab m f1 lNil) := by
  obtain ⟨to, po, ko⟩ := ho
  refine ⟨_, pe_methA0 po hr hx hc, fun σ F H ρ s Q h1 h2 h3 h => ?_⟩
  refine ko.then Good.tgt h1 h2 h3 h fun x s1 v F1 H1 e1 o1 r1 v1 h' => ?_
  change Good X fa (W σ) F1 H1 (((M.lift (methOf tab m x)).bind _) s1) Q at h'
  cases q : methOf tab m x with
  | none => rw [q] at h'; exact h'.elim
  | some g =>
    rw [q] at h'
    obtain ⟨a, C, dx, fs, rfl, ea, f, fd, ps, cc, hm, Fn, hb, l⟩ := meth_of e1.fh ht q r1
    exact ⟨a, C, dx, fs, rfl, ea, f, fd, ps, _, cc, hm, Fn, hb, l, fa, F1, s1, [x], e1.fh, o1, .cons r1 .nil, h'⟩
end
end DL

set_option Elab.async false
set_option linter.all false
set_option maxRecDepth 100000
set_option maxHeartbeats 2000000
/-! The data layer: instances made: __init__. -/
namespace DL
open PySem PySem.Spec PyProof.Rows L2

/-! ### what does not hang on the address -/
open Classical in
noncomputable def allR {α : Type} (r : Addr → Res α) : Res α := if h : ∃ y, ∀ x, r x = y then Classical.choose h else .bad
theorem allR_eq {α : Type} {r : Addr → Res α} {y : Res α} (h : ∀ x, r x = y) : allR r = y := by
  unfold allR
  have hh : ∃ y, ∀ x, r x = y := ⟨y, h⟩
  rw [dif_pos hh]
  exact (Classical.choose_spec hh 0).symm.trans (h 0)
theorem allR_at {α : Type} {r : Addr → Res α} (h : allR r ≠ .bad) (x : Addr) : r x = allR r := by
  unfold allR at h ⊢
  by_cases hh : ∃ y, ∀ x, r x = y
  · rw [dif_pos hh]
    exact Classical.choose_spec hh x
  · rw [dif_neg hh] at h
    exact absurd rfl h
/-- a body of an __init__ (n names, k parameters, self the first of them) as a function of the address and the arguments: the attributes -/
def slfOf (ρ : Sts) : Option (Addr × Str × List (Str × D)) := match ρ[0]? with
  | some (EV.oi y c fs) => some (y, c, fs)
  | _ => none
def initK (x : Addr) (cls : Str) (p : Fl × Sts) : M (List (Str × D)) := match p.1 with
  | .nx => match slfOf p.2 with
    | some q => if q.1 = x ∧ q.2.1 = cls then M.pure q.2.2 else M.bad
    | none => M.bad
  | _ => M.bad
def initRun (n k : Nat) (cls : Str) (body : Sts → M (Fl × Sts)) (x : Addr) (ds : List D) : M (List (Str × D)) := if ds.length + 1 = k then
    (body (.oi x cls [] :: (ds.map EV.d ++ List.replicate (n - k) .no))).bind (initK x cls)
  else M.bad
/-- an instance is made -/
noncomputable def makeD (cls : Str) (g : Addr → List D → M (List (Str × D))) : List D → M D := fun ds s => (allR fun x => g x ds s).bnd fun fs s' => .ok (.ins cls fs) s'
theorem makeD_eq {cls : Str} {g : Addr → List D → M (List (Str × D))} {ds : List D} {s s' : FS} {fs : List (Str × D)} (h : ∀ x, g x ds s = .ok fs s') : makeD cls g ds s = .ok (.ins cls fs) s' := by
  unfold makeD
  rw [allR_eq h]
  rfl
theorem makeD_err {cls : Str} {g : Addr → List D → M (List (Str × D))} {ds : List D} {s s' : FS} {e : Exc} (h : ∀ x, g x ds s = .err e s') : makeD cls g ds s = .err e s' := by
  unfold makeD
  rw [allR_eq h]
  rfl

/-! ### the promise of an __init__ -/
def GoodI' (K : PySem.W.Frag) (mg : Str → Option Value) (fa : Option FA) (E : XK) (cls : Str) (x : Addr) (F H : Hp) (r : Res (List (Str × D))) (Q : VK) : Prop :=
  match r with
  | .bad => False
  | .ok fs s' => ∀ F' H', Ext fa F H F' H' → FeedOk K fa F' H' s' → Rep K fa F' (.ins cls fs) (.ref x) → Q .non H'
  | .err e s' => ∀ c dd F' H', Ext fa F H F' H' → FeedOk K fa F' H' s' → RepX K mg fa F' H' e c dd → E c dd H'
def DSpI (K : PySem.W.Frag) (mg : Str → Option Value) (cls : Str) (g : Addr → List D → M (List (Str × D))) : Sp := fun vs H Q E =>
  ∃ (fa : Option FA) (F H1 : Hp) (s : FS) (ds : List D) (x C dx : Addr) (ws : List V), vs = .ref x :: ws ∧ H1 x = none ∧ H1 dx = none ∧ dx ≠ x ∧ H = upd (upd H1 dx (.own x)) x (.ins C dx []) ∧ PySem.W.nsIn K mainGlobals cls = some (some (.ref C)) ∧
    Same F H1 ∧ FeedOk K fa F H1 s ∧ RepL K fa F ds ws ∧ GoodI' K mg fa E cls x F H1 (g x ds s) Q
section
variable {K : PySem.W.Frag} {fa : Option FA} {F H : Hp}
/-- an object is laid that is not known yet -/
theorem Ext.newH {p : Addr} {o : HO} {F' H' : Hp} (e : Ext fa F H F' H') (hp : H' p = none) : Ext fa F H F' (upd H' p o) := by
  have ne : ∀ b u, H' b = some u → b ≠ p := fun b u q => ne_of_none q hp
  refine ⟨e.ff, fun b u q => ?_, fun b u q n => ?_, e.fr, fun b q => ?_⟩
  · rw [upd_ne (ne b u (e.fh b u q))]; exact e.fh b u q
  · rw [upd_ne (ne b u (e.hh b u q n))]; exact e.hh b u q n
  · by_cases hb : b = p
    · subst hb; rw [upd_same]; simp
    · rw [upd_ne hb]; exact e.al b q
theorem FeedOk.newH {p : Addr} {o : HO} {s : FS} (x : FeedOk K fa F H s) (hp : H p = none) : FeedOk K fa F (upd H p o) s := fun φ e => by
  obtain ⟨h1, h0, h2, h3⟩ := x φ e
  exact ⟨h1, h0, ⟨by rw [upd_ne (ne_of_none h2.1 hp)]; exact h2.1, h2.2.updN hp⟩, h3⟩
end
section
variable {P : Program} {w : World} {K : PySem.W.Frag} {mg : Str → Option Value} {base : Heap}
theorem SOk.startI {fa : Option FA} {F H1 : Hp} {s : FS} {N : List Str} {ds : List D} {vs : List V} {x C dx : Addr} {cls : Str} (h1 : Same F H1) (h2 : FeedOk K fa F H1 s) (r : RepL K fa F ds vs) (hl : ds.length + 1 ≤ N.length)
    (hx : H1 x = none) (hd : H1 dx = none) (ne : dx ≠ x) (hn : PySem.W.nsIn K mainGlobals cls = some (some (.ref C))) :
    SOk K fa F F H1 F (upd (upd H1 dx (.own x)) x (.ins C dx [])) (fun _ => x) (L2.start N (.ref x :: vs)) (.oi x cls [] :: (ds.map EV.d ++ List.replicate (N.length - (ds.length + 1)) .no)) s := by
  have e1 : Ext fa F H1 F (upd H1 dx (.own x)) := (Ext.refl h1).newH hd
  have hx1 : (upd H1 dx (.own x)) x = none := by rw [upd_ne (Ne.symm ne)]; exact hx
  have e2 : Ext fa F H1 F (upd (upd H1 dx (.own x)) x (.ins C dx [])) := e1.newH hx1
  have low : ∀ (i : Nat) ev, (ds.map EV.d ++ List.replicate (N.length - (ds.length + 1)) EV.no)[i]? = some ev → (∃ d, ds[i]? = some d ∧ ev = .d d) ∨ ev = .no := fun i ev h => by
    by_cases hi : i < ds.length
    · rw [List.getElem?_append_left (by simpa using hi), List.getElem?_map] at h
      cases q : ds[i]? with
      | none => rw [q] at h; cases h
      | some d => rw [q] at h; cases h; exact .inl ⟨d, rfl, rfl⟩
    · rw [List.getElem?_append_right (by simp; omega), List.getElem?_replicate] at h
      split at h
      · cases h; exact .inr rfl
      · cases h
  refine ⟨e2, Same.refl _, (h2.newH hd).newH hx1, by unfold L2.start; simp [r.length], fun i ev h => ?_, fun i j e e' h h' ho ho' _ => ?_⟩
  · cases i with
    | zero =>
      cases h
      exact ⟨rfl, h1.free hx, hx, nfa_fresh h2 hx, rfl, C, dx, [], upd_same, hn, .nil⟩
    | succ i =>
      rcases low i ev h with ⟨d, hd', rfl⟩ | rfl
      · obtain ⟨v, hv, rv⟩ := r.get' hd'
        refine ⟨v, ?_, rv⟩
        unfold L2.start
        have hi : i < vs.length := (List.getElem?_eq_some_iff.mp hv).1
        rw [List.getElem?_append_left (by simpa using hi), List.getElem?_map, List.getElem?_cons_succ, hv]
        rfl
      · trivial
  · have z : ∀ (i : Nat) ev, (EV.oi x cls [] :: (ds.map EV.d ++ List.replicate (N.length - (ds.length + 1)) EV.no))[i]? = some ev → ev.own = true → i = 0 := fun i ev h ho => by
      cases i with
      | zero => rfl
      | succ i => rcases low i ev h with ⟨d, hd, rfl⟩ | rfl <;> cases ho
    rw [z i e h ho, z j e' h' ho']
theorem dspI_len {n k : Nat} {cls : Str} {body : Sts → M (Fl × Sts)} {vs : List V} {H : Hp} {Q : VK} {E : XK} (h : DSpI K mg cls (initRun n k cls body) vs H Q E) : vs.length = k := by
  obtain ⟨fa, F, H1, s, ds, x, C, dx, ws, rfl, _, _, _, _, _, _, _, r, g⟩ := h
  rw [List.length_cons, ← r.length]
  by_cases e : ds.length + 1 = k
  · exact e
  · unfold initRun at g
    rw [if_neg e] at g
    exact g.elim
/-- the rule of defs, however its defaults stand -/
def OkB (P : Program) (w : World) (K : PySem.W.Frag) (mg : Str → Option Value) (base : Heap) (qual : Str) (st : Stmt) (f : Addr) (fd : FuncData) : Prop := ∀ (N ps : List Str) (k : Nat) (sp : Sp), FnScope N ps (defScope st) → (∀ vs H Q E, sp vs H Q E → vs.length = ps.length) →
    (∀ (cdv : Value) (A : Around) (outer : List Env) (s : Shared) (H : Hp) (vs : List V) (Q : VK) (E : XK), Room k (A.deeper (envOfC qual (defScope st) s.heap.objs.size f cdv)) → sp vs H Q E →
      ∃ t, PSs (cxOf (L2.CX P w) P w K mg base N qual (defScope st) f cdv A outer s H E) (defBody st) t ∧ t { nx := fun _ H' => Q .non H', rt := Q } (start N vs) H) → FnOk P w K mg base (L2.CX P w) (k + 1) f fd ps sp
theorem okb_fun {x qual : Str} {st : Stmt} {f : Addr} {fd : FuncData} (F : Fun K x qual st f fd) : OkB P w K mg base qual st f fd := fun _ _ _ _ S len hb => F.okX S len hb
theorem okb_funD {x qual : Str} {st : Stmt} {dvs : List V} {kws : List (Str × V)} {f : Addr} {fd : FuncData} (F : FunD K x qual (defArgs st) (defBody st) (defScope st) dvs kws f fd) : OkB P w K mg base qual st f fd := fun _ _ _ _ S len hb => F.ok S len hb
/-- THE RULE of an __init__ -/
theorem fn_init {qual cls : Str} {st : Stmt} {f : Addr} {fd : FuncData} {N ps : List Str} {k : Nat} {body : Sts → M (Fl × Sts)} (F : OkB P w K mg base qual st f fd) (S : FnScope N ps (defScope st)) (hN : ps.length ≤ N.length)
    (hbody : ∀ (cdv : Value) (A : Around) (outer : List Env) (s : Shared) (H : Hp) (E : XK) (fa : Option FA), Room k (A.deeper (envOfC qual (defScope st) s.heap.objs.size f cdv)) →
      SSJ (cxOf (L2.CX P w) P w K mg base N qual (defScope st) f cdv A outer s H E) fa E (defBody st) body) :
    FnOk P w K mg base (L2.CX P w) (k + 1) f fd ps (DSpI K mg cls (initRun N.length ps.length cls body)) := by
  refine F N ps k _ S (fun vs H Q E h => dspI_len h) fun cdv A outer s H vs Q E hr h => ?_
  obtain ⟨fa, Fz, H1, fs, ds, x, C, dx, ws, rfl, hx, hd, ne, rfl, hn, h1, h2, r, g⟩ := h
  obtain ⟨t, p, kk⟩ := hbody cdv A outer s _ E fa hr
  refine ⟨t, p, ?_⟩
  unfold initRun at g
  by_cases e : ds.length + 1 = ps.length
  · rw [if_pos e] at g
    have S0 := SOk.startI (N := N) (cls := cls) h1 h2 r (by omega) hx hd ne hn
    rw [e] at S0
    refine kk Fz Fz H1 Fz _ _ _ _ fs _ S0 ?_
    change GoodI' K mg fa E cls x Fz H1 ((body (.oi x cls [] :: (ds.map EV.d ++ List.replicate (N.length - ps.length) .no)) fs).bnd _) Q at g
    generalize body (.oi x cls [] :: (ds.map EV.d ++ List.replicate (N.length - ps.length) .no)) fs = rr at g
    cases rr with
    | bad => exact g
    | err e s' => exact g
    | ok q s' =>
      obtain ⟨fl, ρ'⟩ := q
      cases fl with
      | nx =>
        intro σ' F' H' A' S'
        dsimp only at g S'
        change GoodI' K mg fa E cls x Fz H1 ((match slfOf ρ' with
          | some q => if q.1 = x ∧ q.2.1 = cls then M.pure q.2.2 else M.bad
          | none => M.bad) s') Q at g
        unfold slfOf at g
        cases e0 : ρ'[0]? with
        | none => rw [e0] at g; exact g.elim
        | some ev =>
          rw [e0] at g
          cases ev with
          | oi y c fs1 =>
            dsimp only at g
            by_cases hy : y = x ∧ c = cls
            · rw [if_pos hy] at g
              obtain ⟨rfl, rfl⟩ := hy
              obtain ⟨w0, _, _, _, px, _⟩ := S'.slot 0 _ e0
              obtain ⟨F2, S2⟩ := S'.freeze e0
              obtain ⟨v, w1, rv⟩ := S2.slot 0 (.d (.ins c fs1)) (by rw [List.getElem?_set_self (List.getElem?_eq_some_iff.mp e0).1]; rfl)
              have hv : v = .ref y := by
                rw [w0, px] at w1
                cases w1
                rfl
              rw [hv] at rv
              exact g F2 H' S2.ext S2.fd rv
            · rw [if_neg hy] at g
              exact g.elim
          | _ => exact g.elim
      | rt d => exact g.elim
      | bk => exact g.elim
      | ct => exact g.elim
  · rw [if_neg e] at g
    exact g.elim
end

/-! ### a call that makes an instance -/
/-- the class of that name, called with n values and keywords ks: perm puts them in the parameters' order; g tells the attributes -/
structure Mal (P : Program) (w : World) (K : PySem.W.Frag) (mg : Str → Option Value) (base : Heap) (k : Nat) (cls : Str) (n : Nat) (ks : List Str) (perm : List D → List D → List D) (g : Addr → List D → M (List (Str × D))) : Prop where
  ex : ∃ C f fd ps gF gV, PySem.W.nsIn K mainGlobals cls = some (some (.ref C)) ∧ mg cls = some (.ref C) ∧ Mk K C f ∧ FnOk P w K mg base (L2.CX P w) k f fd ps (DSpI K mg cls g) ∧ KBn K fd ps (n + 1) ks gF gV ∧
    ∀ (fa : Option FA) (F : Hp) (x : Addr) (vs zs : List V) (ds es : List D), vs.length = n → zs.length = ks.length → RepL K fa F ds vs → RepL K fa F es zs → ∃ ws, gV (.ref x :: vs) zs = .ref x :: ws ∧ RepL K fa F (perm ds es) ws
noncomputable def dMake (cls : Str) (n m : Nat) (perm : List D → List D → List D) (g : Addr → List D → M (List (Str × D))) (fl fk : Env' → M (List D)) : Env' → M D := fun ρ => (fl ρ).bind fun xs => (fk ρ).bind fun zs => if xs.length = n ∧ zs.length = m then makeD cls g (perm xs zs) else M.bad
section
variable {X : Cx} {fa : Option FA} {W : L2.St → XK} {e : Expr} {es : List Expr} {pos p : Pos} {fl fk : Env' → M (List D)} {k n : Nat} {t tk : TA} {kws : List Keyword}
def tMakeS (C : Addr) (n m : Nat) (sp : Sp) (gV : List V → List V → List V) (E : L2.St → XK) (t tk : TA) : TE := fun σ H Q => t σ H fun vs H1 => tk σ H1 fun zs H2 => vs.length = n ∧ zs.length = m ∧
  ∀ x dx, H2 x = none → H2 dx = none → dx ≠ x → sp (gV (.ref x :: vs) zs) (upd (upd H2 dx (.own x)) x (.ins C dx [])) (fun v H3 => v = .non ∧ Q (.ref x) H3) (E σ)
theorem run_makeNS {pins : List (Addr × Obj)} {σ : L2.St} {H : Hp} {s : Shared} {Q : VK} {us ws : List Value} {vs zs : List V} {C f : Addr} {fd : FuncData} {ps ks : List Str} {sp : Sp} {E : XK} {g : List Value → List Value → List Value} {gV : List V → List V → List V} (M : Mk X.K C f) (F : FnOk X.prog X.w X.K X.mg X.base (L2.CX X.prog X.w) k f fd ps sp) (hr : Room (k + 1) X.A) (hb : KBn X.K fd ps (n + 1) ks g gV)
    (hx : PassesAt (L2.CX X.prog X.w) X σ E) (I : Inv X pins σ H s) (r : Vals vs us) (rz : Vals zs ws) (l1 : vs.length = n) (l2 : zs.length = ks.length)
    (h : ∀ x dx, H x = none → H dx = none → dx ≠ x → sp (gV (.ref x :: vs) zs) (upd (upd H dx (.own x)) x (.ins C dx [])) (fun v H2 => v = .non ∧ Q (.ref x) H2) E) :
    wpAny (model X.prog X.w) X.A (call (.ref C) us (ks.zip ws)) (EP X pins σ Q) X.xe s := by
  have hq := h (s.heap.objs.size + 1) s.heap.objs.size (I.hok.fresh (Nat.le_succ _)) (I.hok.fresh (Nat.le_refl _)) (Nat.ne_of_lt (Nat.lt_succ_self _))
  have I2 := Inv.made (C := C) I
  have r1 : Vals (V.ref (s.heap.objs.size + 1) :: vs) (Value.ref (s.heap.objs.size + 1) :: us) := .cons rfl r
  have r2 := hb.rel r1 rz
  have e1 : (Value.ref (s.heap.objs.size + 1) :: us).length = n + 1 := r1.length.symm.trans (congrArg Nat.succ l1)
  have e2 : ws.length = ks.length := rz.length.symm.trans l2
  refine wpAny_call (make_map (f := f) I.kIn M.makes M.init (beq_iff_eq.mp M.fn) (codeAny_mono (F.run _ X.stack _ _ ⟨Value.ref (s.heap.objs.size + 1) :: us, ks.zip ws⟩ (g (Value.ref (s.heap.objs.size + 1) :: us) ws) _ _ E (hr.make C us (ks.zip ws))
    (I2.env0.make C us (ks.zip ws)) (hb.to _ (Value.ref (s.heap.objs.size + 1) :: us) ws I2.kIn e1 e2) r2 hq) fun r s' hq' => ?_))
  cases r with
  | error e => exact hx pins _ _ e s' I2 hq'
  | ok fl =>
    cases fl with
    | ret u =>
      obtain ⟨v, H', I3, rv, ev, q3⟩ := I2.after hq'
      subst ev
      exact ⟨rv, ⟨V.ref (s.heap.objs.size + 1), H', I3, rfl, q3⟩⟩
    | next => exact False.elim hq'
    | brk => exact False.elim hq'
    | cont => exact False.elim hq'
theorem pe_makeNS {C f : Addr} {fd : FuncData} {ps ks : List Str} {sp : Sp} {E : L2.St → XK} {g : List Value → List Value → List Value} {gV : List V → List V → List V} {x : Str} (M : Mk X.K C f) (F : FnOk X.prog X.w X.K X.mg X.base (L2.CX X.prog X.w) k f fd ps sp) (hr : Room (k + 1) X.A) (hg : Gl X x) (hm : X.mg x = some (.ref C)) (hb : KBn X.K fd ps (n + 1) ks g gV) (hx : ∀ σ, PassesAt (L2.CX X.prog X.w) X σ (E σ))
    (ha : PA X (e :: es) t) (hkw : PK X kws tk) (hall : (backToKw pos (keywordEach kws X.env)).all (·.1.isSome) = true := by rfl) (hks : (backToKw pos (keywordEach kws X.env)).filterMap (·.1) = ks := by rfl)
    (hdb : (x == ("__debug__" : Str)) = false := by decide) (he : starEach (e :: es) X.env = (false, eval e X.env) :: starEach es X.env := by rfl)
    (hpl : ((backTo pos (starEach (e :: es) X.env)).any (·.1) || (backToKw pos (keywordEach kws X.env)).any (·.1.isNone)) = false := by rfl) :
    PE X (.Call (.Name x p) (e :: es) kws pos) (tMakeS C n ks.length sp gV E t tk) := by
  refine ⟨fun pins s σ H Q I h => ?_⟩
  refine wpAny_Call_Name_kw (ld_glob I hg hm ?_ hdb)
  refine PySem.W.callWith_KW (h₀ := X.base) I.ok.mod.kin M.kp hall (thn (ha.run pos pins s σ H _ I h) fun us s1 ⟨vs, H1, I1, r, q⟩ => ?_) hpl he
  refine thn (hkw.run pos pins s1 σ H1 _ I1 q) fun ws s2 ⟨zs, H2, I2, rz, l1, l2, q2⟩ => ⟨I2.kIn, ?_⟩
  rw [hks]
  exact run_makeNS M F hr hb (hx σ) I2 r rz l1 l2 q2
theorem ed_make {cls : Str} {ks : List Str} {perm : List D → List D → List D} {g : Addr → List D → M (List (Str × D))} (C : Mal X.prog X.w X.K X.mg X.base k cls n ks perm g) (hr : Room (k + 1) X.A) (hx : ∀ σ, PassesAt (L2.CX X.prog X.w) X σ (W σ)) (ha : LD X fa W (e :: es) fl) (hk : KD X fa W kws fk) (hg : Gl X cls := by rfl)
    (hall : (backToKw pos (keywordEach kws X.env)).all (·.1.isSome) = true := by rfl) (hks : (backToKw pos (keywordEach kws X.env)).filterMap (·.1) = ks := by rfl)
    (hdb : (cls == ("__debug__" : Str)) = false := by decide) (he : starEach (e :: es) X.env = (false, eval e X.env) :: starEach es X.env := by rfl)
    (hpl : ((backTo pos (starEach (e :: es) X.env)).any (·.1) || (backToKw pos (keywordEach kws X.env)).any (·.1.isNone)) = false := by rfl) :
    ED X fa W (.Call (.Name cls p) (e :: es) kws pos) (dMake cls n ks.length perm g fl fk) := by
  obtain ⟨C, f, fd, ps, gF, gV, hns, hm, mk, Fn, hb, hp⟩ := C.ex
  obtain ⟨ta, pa, ka⟩ := ha
  obtain ⟨tk, pk, kk⟩ := hk
  refine ⟨_, pe_makeNS mk Fn hr hg hm hb hx pa pk hall hks hdb he hpl, fun σ F H ρ s Q h1 h2 h3 h => ?_⟩
  refine ka.then Good.tgt h1 h2 h3 h fun xs s1 vs F1 H1 e1 o1 r1 v1 h' => ?_
  refine kk.then Good.tgt e1.fh o1 v1 h' fun zs s2 us F2 H2 e2 o2 r2 v2 h'' => ?_
  by_cases hl : xs.length = n ∧ zs.length = ks.length
  · rw [if_pos hl] at h''
    have l1 : vs.length = n := by rw [← r1.length]; exact hl.1
    have l2 : us.length = ks.length := by rw [← r2.length]; exact hl.2
    refine ⟨l1, l2, fun x dx hx' hd ne => ?_⟩
    obtain ⟨ws, ew, rw'⟩ := hp fa F2 x vs us xs zs l1 l2 (r1.mono e2.ff) r2
    rw [ew]
    refine ⟨fa, F2, H2, s2, perm xs zs, x, C, dx, ws, rfl, hx', hd, ne, rfl, hns, e2.fh, o2, rw', ?_⟩
    unfold makeD at h''
    have hnb : (allR fun x => g x (perm xs zs) s2) ≠ .bad := fun z => by
      change Good X fa (W σ) F2 H2 ((allR fun x => g x (perm xs zs) s2).bnd _) Q at h''
      rw [z] at h''
      exact h''.elim
    have ea := allR_at hnb x
    change Good X fa (W σ) F2 H2 ((allR fun x => g x (perm xs zs) s2).bnd _) Q at h''
    rw [← ea] at h''
    generalize g x (perm xs zs) s2 = rr at h''
    cases rr with
    | bad => exact h''.elim
    | ok fs s3 => exact fun F' H' ex fo rv => ⟨rfl, h'' _ F' H' ex fo rv⟩
    | err e s3 => exact h''
  · rw [if_neg hl] at h''
    exact h''.elim
end
end DL

set_option Elab.async false
set_option linter.all false
set_option maxRecDepth 100000
set_option maxHeartbeats 2000000
/-! The data layer: attributes of self stored. -/
namespace DL
open PySem PySem.Spec PyProof.Rows L2
def NoA (K : PySem.W.Frag) (c f : Str) : Prop := ∃ C, PySem.W.nsIn K mainGlobals c = some (some (.ref C)) ∧ Cls K C ∧ NoAttr K C f
def putAll : List Str → List D → List (Str × D) → List (Str × D)
  | f :: r, x :: xs, fs => putAll r xs (putFD f x fs)
  | _, _, fs => fs
/-- self.f, .. = e, .. -/
def gFlds (i : Nat) (cls : Str) (fns : List Str) (fl : Sts → M (List D × Sts)) : Sts → M (Fl × Sts) := fun ρ => (fl ρ).bind fun q => match q.2[i]? with
  | some (EV.oi y c fs) => if q.1.length = fns.length ∧ fs.length + fns.length < 1000 ∧ c = cls then M.pure (.nx, q.2.set i (.oi y c (putAll fns q.1 fs))) else M.bad
  | _ => M.bad
/-- self.f = e -/
def gFld (i : Nat) (cls : Str) (f : Str) (fv : Sts → M (EV × Sts)) : Sts → M (Fl × Sts) := fun ρ => (fv ρ).bind fun p => match p.1, p.2[i]? with
  | .d x, some (EV.oi y c fs) => if fs.length < 1000 ∧ c = cls then M.pure (.nx, p.2.set i (.oi y c (putFD f x fs))) else M.bad
  | _, _ => M.bad
section
variable {X : Cx} {fa : Option FA} {W : XK} {a b c e o : Expr} {es rest : List Expr} {pos p apos cpos pos' : Pos} {f fv : Sts → M (EV × Sts)} {fl : Sts → M (List D × Sts)}
/-- the write itself -/
theorem SOk.writeF {B F0 H0 F H : Hp} {A : Nat → Addr} {σ : L2.St} {ρ : Sts} {s : FS} {i : Nat} {y : Addr} {cls fn : Str} {fs : List (Str × D)} {x : D} {v : V} (S : SOk X.K fa B F0 H0 F H A σ ρ s) (h : ρ[i]? = some (.oi y cls fs)) (r : Rep X.K fa F x v) (hn : NoA X.K cls fn) (hl : fs.length < 1000) :
    ∃ a C dx vs, σ[i]? = some (some (.ref a)) ∧ H a = some (.ins C dx vs) ∧ Cls X.K C ∧ NoAttr X.K C fn ∧ vs.length < 1000 ∧ SOk X.K fa B F0 H0 F (upd H a (.ins C dx (putF fn v vs))) A σ (ρ.set i (.oi y cls (putFD fn x fs))) s := by
  obtain ⟨w0, f0, g0, n0, px, C, dx, vs, q0, nn, r0⟩ := S.slot i _ h
  obtain ⟨C', n', cc, na⟩ := hn
  have : C' = C := by
    rw [nn] at n'
    cases n'
    rfl
  subst this
  exact ⟨A i, C', dx, vs, join_some w0, q0, cc, na, by rw [r0.length]; exact hl, S.write (ev' := .oi y cls (putFD fn x fs)) h rfl rfl ⟨rfl, f0, g0, n0, px, C', dx, _, upd_same, nn, r0.put r⟩⟩
theorem sj_fld {i : Nat} {x cls fn : Str} (hn : NoA X.K cls fn) (hv : VJ X fa W e fv) (ho : PE X (.Name x p) (tVar i)) (hs : swapsWith e (some (.Attribute (.Name x p) fn pos')) pos.line X.env = pure false := by rfl) :
    SJ X fa W (.Assign [.Attribute (.Name x p) fn pos'] e pos) (gFld i cls fn fv) := by
  obtain ⟨tv, pv', kv⟩ := hv
  refine ⟨_, ps_fld ho pv' hs, fun B F0 H0 F H A σ ρ s Dn S hgood => ?_⟩
  refine kv.then (vs := []) (evs := []) GoodS.tgt S.len (by rw [app0, app0]; exact S) hgood fun ev ρ1 s1 w F1 H1 A1 S1 hl1 h1 => ?_
  rw [app0, app0] at S1
  dsimp only at h1
  cases ev with
  | d y =>
    cases e1 : ρ1[i]? with
    | none => rw [e1] at h1; exact h1.elim
    | some ev1 =>
      cases ev1 with
      | oi z c fs =>
        rw [e1] at h1
        dsimp only at h1
        by_cases hz : fs.length < 1000 ∧ c = cls
        · rw [if_pos hz] at h1
          obtain ⟨hz, rfl⟩ := hz
          have rw1 : Rep X.K fa F1 y w := by
            have S1' : SOk X.K fa B F0 H0 F1 H1 A1 (σ ++ [w].map some) (ρ1 ++ [y].map EV.d) s1 := S1
            have rl := S1'.top hl1
            cases rl with
            | cons r _ => exact r
          have S2 := S1.drop hl1
          obtain ⟨a, C, dx, vs, w0, q0, cc, na, lz, S3⟩ := S2.writeF e1 rw1 hn hz
          exact ⟨_, w0, a, C, dx, vs, rfl, q0, cc, na, lz, h1 σ F1 _ A1 S3⟩
        · rw [if_neg hz] at h1
          exact h1.elim
      | _ => rw [e1] at h1; exact h1.elim
  | _ => exact h1.elim

/-! ### several attributes -/
def gAt (K : PySem.W.Frag) (ta : TE) (f : Str) : TG := fun v σ H Q => ta σ H fun x H2 => ∃ a C dx fs, x = .ref a ∧ H2 a = some (.ins C dx fs) ∧ Cls K C ∧ NoAttr K C f ∧ fs.length < 1000 ∧ Q σ (upd H2 a (.ins C dx (putF f v fs)))
theorem pg_at {ta : TE} {f : Str} (ho : PE X o ta) : PG X (.Attribute o f pos) (gAt X.K ta f) := by
  refine ⟨fun pins s σ H v u Q I r h => ?_⟩
  rw [show assign (.Attribute o f pos) X.env u = (do
    let ov ← holding [u] (eval o X.env)
    standAt pos.atName
    holding [u, ov] (setAttr ov f u)
    release [u, ov] []) from rfl]
  refine wpAny_bind (wpAny_holding (thn (ho.run pins s σ H _ I h) fun ov s2 ⟨x, H2, I2, rx, a, C, dx, fs, ex, ea, c, n, l, q2⟩ => ?_))
  subst ex
  obtain rfl : ov = Value.ref a := rx
  refine wpAny_bind (wpAny_standAt (wpAny_bind (wpAny_holding (setattr_ok I2 ea c n l r fun s3 I3 => ?_))))
  exact wpAny_release ⟨σ, _, I3, q2⟩
/-- targets self.f, .. -/
def AtTs (X : Cx) (i : Nat) (cls : Str) (es : List Expr) (fns : List Str) : Prop := ∃ gs, PGs X es gs ∧ ∀ (fa : Option FA) (B F0 H0 F H : Hp) (A : Nat → Addr) (σ : L2.St) (ρ : Sts) (s : FS) (y : Addr) (fs : List (Str × D)) (ds : List D) (ws : List V) (Q : L2.St → Hp → Prop),
  SOk X.K fa B F0 H0 F H A σ ρ s → ρ[i]? = some (.oi y cls fs) → RepL X.K fa F ds ws → ds.length = fns.length → fs.length + fns.length < 1000 → (∀ H', SOk X.K fa B F0 H0 F H' A σ (ρ.set i (.oi y cls (putAll fns ds fs))) s → Q σ H') → gs ws σ H Q
theorem att_nil {i : Nat} {cls : Str} : AtTs X i cls [] [] := by
  refine ⟨_, pgs_nil, fun fa B F0 H0 F H A σ ρ s y fs ds ws Q S h r l z q => ?_⟩
  cases r with
  | nil =>
    refine ⟨rfl, q H ?_⟩
    have : ρ.set i (.oi y cls (putAll [] [] fs)) = ρ := List.ext_getElem? fun j => by
      by_cases hj : i = j
      · subst hj
        rw [List.getElem?_set_self (List.getElem?_eq_some_iff.mp h).1, h]
        rfl
      · rw [List.getElem?_set_ne hj]
    rw [this]
    exact S
  | cons _ _ => cases l
theorem att_cons {i : Nat} {x cls fn : Str} {fns : List Str} (hn : NoA X.K cls fn) (ho : PE X (.Name x p) (tVar i)) (h2 : AtTs X i cls es fns) (hs : (assignEach (.Attribute (.Name x p) fn pos :: es) X.env).map (·.2) = assign (.Attribute (.Name x p) fn pos) X.env :: (assignEach es X.env).map (·.2) := by rfl) :
    AtTs X i cls (.Attribute (.Name x p) fn pos :: es) (fn :: fns) := by
  obtain ⟨gs, pgs, kk⟩ := h2
  refine ⟨_, pgs_cons (pg_at ho) pgs hs, fun fa B F0 H0 F H A σ ρ s y fs ds ws Q S h r l z q => ?_⟩
  cases r with
  | nil => cases l
  | @cons d v ds vs r t =>
    simp only [List.length_cons] at l z
    obtain ⟨a, C, dx, us, w0, q0, cc, na, lz, S3⟩ := S.writeF h r hn (by omega)
    refine ⟨v, vs, rfl, _, w0, a, C, dx, us, rfl, q0, cc, na, lz, ?_⟩
    refine kk fa B F0 H0 F _ A σ _ s y (putFD fn d fs) ds vs Q S3 (by rw [List.getElem?_set_self (List.getElem?_eq_some_iff.mp h).1]) t (by omega) (by have := putFD_len (f := fn) (x := d) fs; omega) fun H' S4 => q H' ?_
    rw [List.set_set] at S4
    exact S4
theorem sj_flds {i k k2 : Nat} {cls : Str} {fns : List Str} {tp tp2 : Pos} {ts : List Expr} (hc : X.calm = true) (ht : AtTs X i cls ts fns) (hl : LVJ X fa W es fl)
    (hs : swapsWithSole [.Tuple ts k tp] (.Tuple es k2 tp2) pos.line X.env = pure false := by rfl) (hw : swappedStores [.Tuple ts k tp] (.Tuple es k2 tp2) X.env = pure none := by rfl)
    (h1 : (assignEach [.Tuple ts k tp] X.env).map (·.2) = [assign (.Tuple ts k tp) X.env] := by rfl)
    (hn : (assignEach ts X.env).length = fns.length := by rfl) (hst : (assignEach ts X.env).findIdx? (·.1) = none := by rfl) (hsz : fns.length ≤ 100 := by decide) :
    SJ X fa W (.Assign [.Tuple ts k tp] (.Tuple es k2 tp2) pos) (gFlds i cls fns fl) := by
  obtain ⟨gs, pgs, kk⟩ := ht
  obtain ⟨tl, pl, kl⟩ := hl
  refine ⟨_, ps_asg (pe_tup pl) (pg_tup hc pgs hn hst) hs hw h1, fun B F0 H0 F H A σ ρ s Dn S hgood => ?_⟩
  refine kl.then (vs := []) (evs := []) GoodS.tgt S.len (by rw [app0, app0]; exact S) hgood fun ds ρ1 s1 ws F1 H1 A1 S1 hl1 hw1 r1 h1' => ?_
  rw [app0, app0] at S1
  dsimp only at h1'
  cases e1 : ρ1[i]? with
  | none => rw [e1] at h1'; exact h1'.elim
  | some ev1 =>
    cases ev1 with
    | oi z c fs =>
      rw [e1] at h1'
      dsimp only at h1'
      by_cases hz : ds.length = fns.length ∧ fs.length + fns.length < 1000 ∧ c = cls
      · rw [if_pos hz] at h1'
        obtain ⟨z1, z2, rfl⟩ := hz
        refine ⟨by rw [hw1, z1, sizeLine_eq]; omega, fun q hq => ?_⟩
        refine ⟨q, ws, rfl, SqT.of upd_same, by rw [hw1]; exact z1, ?_⟩
        have S2 : SOk X.K fa B F0 H0 F1 (upd H1 q (.tup ws)) A1 σ ρ1 s1 := S1.step ((Ext.refl S1.ext.fh).newH hq) (S1.fd.newH hq)
        exact kk fa B F0 H0 F1 _ A1 σ ρ1 s1 z fs ds ws _ S2 e1 r1 z1 z2 fun H' S3 => h1' σ F1 H' A1 S3
      · rw [if_neg hz] at h1'
        exact h1'.elim
    | _ => rw [e1] at h1'; exact h1'.elim
end
end DL

set_option Elab.async false
set_option linter.all false
set_option maxRecDepth 100000
set_option maxHeartbeats 2000000
/-! Sets of one kind of key (ints or texts), with the set's table known to be walkable: made, added to, collected. -/
namespace SG
open PySem PySem.Spec PyProof.Rows L2

/-- a kind of keys: what key a value is, how a key stands as a value -/
structure KK (P : Program) (w : World) (κ : Type) [DecidableEq κ] where
  knd : KeyKind P w κ
  key : Value → κ
  emb : κ → V
  is_key : ∀ {k v}, knd.is k v = true → key v = k
  of_rel : ∀ {k v}, RelV (emb k) v → knd.is k v = true ∧ v.scannable = true
  to_rel : ∀ {k v}, knd.is k v = true → RelV (emb k) v
def kkInt (P : Program) (w : World) : KK P w Int where
  knd := intKind P w
  key := fun v => match v with | .int k _ => k | _ => 0
  emb := V.int
  is_key := fun {k v} h => by
    obtain ⟨t, rfl⟩ := Value.isInt_shape h
    rfl
  of_rel := fun {k v} ⟨t, h⟩ => by
    subst h
    exact ⟨intKind_is P w k t, rfl⟩
  to_rel := fun {k v} h => Value.isInt_shape h
theorem strKind_is (P : Program) (w : World) (x : Str) (t : Tok) : (strKind P w).is x (.str x t) = true := by
  show Value.isStrOf x (.str x t) = true
  simp [Value.isStrOf]
def kkStr (P : Program) (w : World) : KK P w Str where
  knd := strKind P w
  key := fun v => match v with | .str x _ => x | _ => Str.empty
  emb := V.str
  is_key := fun {k v} h => by
    obtain ⟨t, rfl⟩ := Value.isStrOf_shape h
    rfl
  of_rel := fun {k v} ⟨t, h⟩ => by
    subst h
    exact ⟨strKind_is P w k t, rfl⟩
  to_rel := fun {k v} h => Value.isStrOf_shape h

section
variable {P : Program} {w : World} {κ : Type} [DecidableEq κ] {kk : KK P w κ} {h h' : Heap} {a : Addr} {S : κ → Bool} {n : Nat}
abbrev Entry := Int × Value
/-- an entry of the table that is a key of that kind -/
def Ent (kk : KK P w κ) (e : Entry) : Prop := ∃ k, kk.knd.is k e.2 = true ∧ e.1 = kk.knd.hash k ∧ e.2.scannable = true
def ks (kk : KK P w κ) (es : Array Entry) : List κ := es.toList.map fun e => kk.key e.2
/-- at a stands a set: S its members, n their number -/
def SetG (kk : KK P w κ) (h : Heap) (a : Addr) (S : κ → Bool) (n : Nat) : Prop :=
  ∃ o es ep t, h.get? a = some o ∧ (o.ExactSet ∧ o.data = .set es ep t) ∧ ((∀ e ∈ es.toList, Ent kk e) ∧ (ks kk es).Nodup ∧ ∀ k, S k = true ↔ k ∈ ks kk es) ∧
    (es.size < scanBound ∧ es.size = n) ∧ (t.fits es.size = true ∧ Ris t.place.toList ∧ (w.params.followText "set-order" = true ∨ t.led = true))
theorem SetG.at (R : SetG kk h a S n) (k : ∀ o, h.get? a = some o → h'.get? a = some o) : SetG kk h' a S n := by
  obtain ⟨o, es, ep, t, ho, r⟩ := R
  exact ⟨o, es, ep, t, k o ho, r⟩
theorem SetG.ob (R : SetG kk h a S n) : ∃ o, h.get? a = some o := by
  obtain ⟨o, es, ep, t, ho, r⟩ := R
  exact ⟨o, ho⟩
theorem ent_elems {l : List Entry} (g : ∀ e ∈ l, Ent kk e) : ElemsOf kk.knd l := fun e he => by
  obtain ⟨k, h1, h2, h3⟩ := g e he
  exact ⟨⟨k, h1, h2⟩, h3⟩
theorem ent_mem {es : Array Entry} (g : ∀ e ∈ es.toList, Ent kk e) (k : κ) : k ∈ ks kk es ↔ ∃ e ∈ es.toList, kk.knd.is k e.2 = true := by
  unfold ks
  rw [List.mem_map]
  refine ⟨fun ⟨e, he, q⟩ => ⟨e, he, ?_⟩, fun ⟨e, he, q⟩ => ⟨e, he, kk.is_key q⟩⟩
  obtain ⟨j, h1, _⟩ := g e he
  rw [← q, kk.is_key h1]
  exact h1
theorem SetG.setOf (R : SetG kk h a S n) : h.SetOf kk.knd a S n := by
  obtain ⟨o, es, ep, t, ho, ⟨hex, hd⟩, ⟨g, nd, hm⟩, ⟨hb, hn⟩, hf, hr, hl⟩ := R
  exact ⟨o, es, ep, t, ho, hex, hd, ent_elems g, fun k => (hm k).trans (ent_mem g k), hb, hf, hn⟩
theorem perm_ks {es es' : Array Entry} (p : es'.toList.Perm es.toList) : (ks kk es').Perm (ks kk es) := p.map _
theorem setG_new : SetG kk (h.push { cls := .type "set", dict := none, data := .set #[] 0 (.fresh 0 0 (!w.params.followText "set-order")) }) h.objs.size (fun _ => false) 0 := by
  refine ⟨_, #[], 0, _, Heap.get?_push_size _ rfl, ⟨⟨rfl, rfl, rfl⟩, rfl⟩, ⟨fun e he => by simp at he, by simp [ks], fun k => by simp [ks]⟩, ⟨by decide, rfl⟩, by rfl, List.Pairwise.nil, ?_⟩
  show _ ∨ (!w.params.followText "set-order") = true
  cases w.params.followText "set-order"
  · exact .inr rfl
  · exact .inl rfl

variable {A : Around} {E : Value → Shared → Prop} {s : Shared}
/-- the end of an add: the table stored, perhaps laid anew -/
theorem lay_tail {gv : Bool → Sem Unit} (hg : ∀ (b : Bool) (s₁ : Shared) (Q' : Unit → Shared → Prop), Q' () s₁ → wpAny (model P w) A (gv b) Q' E s₁)
    {o : Obj} {es0 es : Array Entry} {ep : Nat} {t0 t : SetTable} (ho : s.heap.get? a = some o) (hex : o.ExactSet) (hd : o.data = .set es0 ep t0)
    (g : (∀ e ∈ es.toList, Ent kk e) ∧ (ks kk es).Nodup ∧ ∀ k, S k = true ↔ k ∈ ks kk es) (hb : es.size < scanBound) (hf : t.fits es.size = true ∧ Ris t.place.toList ∧ (w.params.followText "set-order" = true ∨ t.led = true))
    {wasDummy : Bool} {R : Option Bool → Shared → Prop} (hR : ∀ h', Heap.SameBut a s.heap h' → SetG kk h' a S es.size → R (some true) { s with heap := h' }) :
    wpAny (model P w) A (do
        storeSet a es t
        if (!wasDummy && t.tooFull) = true then do
            gv (relayAll t es (SetTable.grown es.size)).2.2
            storeSet a (relayAll t es (SetTable.grown es.size)).1 (relayAll t es (SetTable.grown es.size)).2.1
            pure (some true)
          else pure (some true)) R E s := by
  obtain ⟨f1, f2, f3⟩ := hf
  refine wpAny_bind (wpAny_storeSet_of ho hd ?_ (fits_of_scanBound hb))
  have o1 := store_at (es' := es) (t' := t) ho hd
  have b1 := Heap.SameBut.update s.heap a (Obj.putSet es t)
  split
  · have p := relayAll_perm t es (SetTable.grown es.size)
    have q := And.intro (relayAll_fits t es (SetTable.grown es.size)) (And.intro (relayAll_ris t es (SetTable.grown es.size)) (relayAll_led t es (SetTable.grown es.size)))
    generalize relayAll t es (SetTable.grown es.size) = Z at p q ⊢
    obtain ⟨es2, t2, gave⟩ := Z
    dsimp only at p q ⊢
    have z : es2.size = es.size := by
      have := p.length_eq
      simpa using this
    refine wpAny_bind (hg _ _ _ (wpAny_bind (wpAny_storeSet_of o1 rfl ?_ (fits_of_scanBound (by rw [z]; exact hb)))))
    have o2 := store_at (es' := es2) (t' := t2) o1 rfl
    have pk := perm_ks (kk := kk) p
    refine wpAny_pure (hR _ (b1.trans (Heap.SameBut.update _ a _)) ⟨_, es2, _, t2, o2, ⟨hex, rfl⟩, ⟨fun e he => g.1 e (p.mem_iff.mp he), pk.nodup_iff.mpr g.2.1, fun k => (g.2.2 k).trans pk.mem_iff.symm⟩, ⟨by rw [z]; exact hb, z⟩, q.1, q.2.1, ?_⟩)
    rcases f3 with f3 | f3
    · exact .inl f3
    · exact .inr (q.2.2.trans f3)
  · exact wpAny_pure (hR _ b1 ⟨_, es, _, t, o1, ⟨hex, rfl⟩, g, ⟨hb, rfl⟩, f1, f2, f3⟩)
theorem add_hashed {k : κ} {v : Value} {Q : Bool → Shared → Prop} (hv : kk.knd.is k v = true ∧ v.scannable = true) (R : SetG kk s.heap a S n) (room : n + 1 < scanBound)
    (hQ : ∀ h', Heap.SameBut a s.heap h' → SetG kk h' a (fun j => S j || decide (j = k)) (if S k = true then n else n + 1) → Q (!S k) { s with heap := h' }) :
    wpAny (model P w) A (setAddHashed a v (kk.knd.hash k)) Q E s := by
  obtain ⟨o, es, ep, t, ho, ⟨hex, hd⟩, ⟨g, nd, hm⟩, ⟨hb, hn⟩, hf, hr, hl⟩ := R
  have hel := ent_elems g
  unfold setAddHashed setAddHashedIn
  refine wpAny_holding (wpAny_bind (wpAny_setState_of ho hd hf ?_))
  dsimp only
  rw [byScan_of hv.2 hb hel]
  simp only [↓reduceIte]
  unfold setAddByScan
  refine wpAny_bind (wpAny_bind (wpAny_rule (wpAny_bind (wpAny_setScan_of hv.1 ho hd hf hel ?_))))
  cases hfi : List.findIdx? (fun e => kk.knd.is k e.2) es.toList with
  | some j =>
    dsimp only
    obtain ⟨hj, pj, _⟩ := List.findIdx?_eq_some_iff_getElem.mp hfi
    have hk : k ∈ ks kk es := (ent_mem g k).2 ⟨es.toList[j], List.getElem_mem hj, pj⟩
    have hSk : S k = true := (hm k).2 hk
    refine wpAny_pure (wpAny_pure ?_)
    have q := hQ s.heap (Heap.SameBut.refl a s.heap) ⟨o, es, ep, t, ho, ⟨hex, hd⟩, ⟨g, nd, fun i => by
      rw [Bool.or_eq_true, decide_eq_true_eq]
      refine ⟨fun z => ?_, fun z => .inl ((hm i).2 z)⟩
      rcases z with z | z
      · exact (hm i).1 z
      · rw [z]; exact hk⟩, ⟨hb, by rw [if_pos hSk]; exact hn⟩, hf, hr, hl⟩
    rw [hSk] at q
    exact q
  | none =>
    dsimp only
    have hnk : k ∉ ks kk es := fun z => by
      obtain ⟨e, he, q⟩ := (ent_mem g k).1 z
      have c := List.findIdx?_eq_none_iff.mp hfi e he
      rw [q] at c
      cases c
    have hSk : S k = false := Bool.eq_false_iff.mpr fun q => hnk ((hm k).1 q)
    have way : ∀ (b : Bool) {s₁ : Shared} {Q' : Unit → Shared → Prop}, Q' () s₁ → wpAny (model P w) A (match b with | true => rule "set.scan.the-table-gave-way" | false => pure ()) Q' E s₁ := fun b s₁ Q' q => by
      cases b
      · exact wpAny_pure q
      · exact wpAny_rule q
    have p := layNew_perm t es (kk.knd.hash k) v
    have pf := And.intro (layNew_fits t es (kk.knd.hash k) v) (And.intro (layNew_ris t es (kk.knd.hash k) v hr) (layNew_led t es (kk.knd.hash k) v))
    generalize layNew t es (kk.knd.hash k) v = Z at p pf ⊢
    obtain ⟨es1, t1, wasDummy, gave⟩ := Z
    dsimp only at p pf ⊢
    rw [Array.toList_push] at p
    have pc : es1.toList.Perm ((kk.knd.hash k, v) :: es.toList) := p.trans (List.perm_append_singleton _ _)
    have pk : (ks kk es1).Perm (k :: ks kk es) := by
      have := pc.map fun e : Entry => kk.key e.2
      rw [List.map_cons, kk.is_key hv.1] at this
      exact this
    have g1 : (∀ e ∈ es1.toList, Ent kk e) ∧ (ks kk es1).Nodup ∧ ∀ i, (S i || decide (i = k)) = true ↔ i ∈ ks kk es1 := by
      refine ⟨fun e he => ?_, pk.nodup_iff.mpr (List.nodup_cons.mpr ⟨hnk, nd⟩), fun i => ?_⟩
      · rcases List.mem_cons.mp (pc.mem_iff.mp he) with z | z
        · rw [z]; exact ⟨k, hv.1, rfl, hv.2⟩
        · exact g e z
      · rw [Bool.or_eq_true, decide_eq_true_eq, pk.mem_iff, List.mem_cons, hm i]
        exact Or.comm
    have hsz : es1.size = n + 1 := by
      have := pc.length_eq
      simp only [List.length_cons, Array.length_toList] at this
      omega
    have hb1 : es1.size < scanBound := by rw [hsz]; exact room
    have fin : ∀ h', Heap.SameBut a s.heap h' → SetG kk h' a (fun j => S j || decide (j = k)) es1.size → Q true { s with heap := h' } := fun h' sb r => by
      have q := hQ h' sb
      rw [hSk] at q
      rw [hsz] at r
      exact q r
    have led : w.params.followText "set-order" = true ∨ t1.led = true := by
      rcases hl with z | z
      · exact .inl z
      · exact .inr (pf.2.2.trans z)
    refine wpAny_bind (way _ ?_)
    split
    · refine wpAny_bind ?_
      rw [hashByValue_scannable 8 hv.2]
      refine wpAny_pure ?_
      refine lay_tail (fun b s₁ Q' q => by cases b <;> first | exact wpAny_pure q | exact wpAny_rule q) ho hex hd g1 hb1 ?_ (fun h' sb r => wpAny_pure (fin h' sb r))
      split
      · exact ⟨pf.1, pf.2.1, led⟩
      · exact ⟨SetTable.fits_plain_off pf.1, pf.2.1, led⟩
    · refine wpAny_bind (wpAny_pure ?_)
      simp only [↓reduceIte]
      exact lay_tail (fun b s₁ Q' q => by cases b <;> first | exact wpAny_pure q | exact wpAny_rule q) ho hex hd g1 hb1 ⟨pf.1, pf.2.1, led⟩ (fun h' sb r => wpAny_pure (fin h' sb r))
/-- s.add(v) -/
theorem call_add {k : κ} {v : Value} {Q : Value → Shared → Prop} (hv : kk.knd.is k v = true ∧ v.scannable = true) (R : SetG kk s.heap a S n) (room : n + 1 < scanBound)
    (hQ : ∀ h', Heap.SameBut a s.heap h' → SetG kk h' a (fun j => S j || decide (j = k)) (if S k = true then n else n + 1) → Q .none { s with heap := h', toks := s.toks + 1 }) :
    wpAny (model P w) A (call (.builtin "set.add") [.ref a, v]) Q E s := by
  refine wpAny_call_entry F.slot_set_add R.setOf.typeIs F.entry_set_add ?_ (F.args_set_add_2 _ _)
  unfold Builtin.«set.add» Builtin.Frozenset.oneOther
  simp only [List.isEmpty_nil, bind_assoc]
  unfold Builtin.Frozenset.addrOf setAdd
  refine wpAny_bind (wpAny_pure ?_)
  try dsimp only
  refine wpAny_bind (wpAny_pure ?_)
  try dsimp only
  refine wpAny_bind (wpAny_holding (wpAny_bind (kk.knd.pyHash hv.1 ?_)))
  refine add_hashed (s := { s with toks := s.toks + 1 }) hv R room fun h' sb r => ?_
  show wpAny _ _ (ret Value.none) _ _ _
  exact wpAny_pure ⟨_, rfl, hQ h' sb r⟩
/-- the values of a set, in some order -/
theorem collect_G {Q : List Value → Shared → Prop} (hh : A.handled = none) (R : SetG kk s.heap a S n)
    (hQ : ∀ s' (vs : List Value) (l : List κ), (∀ b o, s.heap.get? b = some o → s'.heap.get? b = some o) → s.heap.objs.size ≤ s'.heap.objs.size → s'.gens = s.gens → s'.os = s.os → Vals (l.map kk.emb) vs → l.Nodup → (∀ k, k ∈ l ↔ S k = true) → l.length = n → Q vs s') :
    wpAny (model P w) A (collect (.ref a)) Q E s := by
  obtain ⟨o, es, ep, t, ho, ⟨hex, hd⟩, ⟨g, nd, hm⟩, ⟨hb, hn⟩, hf, hr, hl⟩ := R
  refine collect_set hh ⟨o, ho, hex.1, hd⟩ hf hb hr hl fun s1 vs k1 z g1 o1 pm => ?_
  have pk : (vs.map kk.key).Perm (ks kk es) := by
    have := pm.map kk.key
    rw [List.map_map] at this
    exact this
  have hv : ∀ (vs : List Value), (∀ v ∈ vs, kk.knd.is (kk.key v) v = true) → Vals ((vs.map kk.key).map kk.emb) vs := fun vs => by
    induction vs with
    | nil => exact fun _ => .nil
    | cons v r ih => exact fun hv => .cons (kk.to_rel (hv v List.mem_cons_self)) (ih fun u hu => hv u (List.mem_cons_of_mem _ hu))
  refine hQ s1 vs (vs.map kk.key) k1 z g1 o1 (hv vs fun v hv => ?_) (pk.nodup_iff.mpr nd) (fun k => by rw [pk.mem_iff, ← hm k]) ?_
  · obtain ⟨e, he, q⟩ := List.mem_map.mp (pm.mem_iff.mp hv)
    obtain ⟨k, h1, _⟩ := g e he
    rw [← q, kk.is_key h1]
    exact h1
  · rw [pk.length_eq]
    unfold ks
    rw [List.length_map, Array.length_toList]
    exact hn
end
end SG

set_option Elab.async false
set_option linter.all false
set_option maxRecDepth 100000
set_option maxHeartbeats 4000000
/-! Set comprehensions with one and two clauses, over a kind of keys. -/
namespace SG
open PySem PySem.Spec PyProof.Rows L2 PpSet

def SGO {P : Program} {w : World} {κ : Type} [DecidableEq κ] (kk : KK P w κ) (a : Addr) (S : κ → Bool) (n : Nat) : HO := .ext fun h => SetG kk h a S n
section
variable {P : Program} {w : World} {κ : Type} [DecidableEq κ] {kk : KK P w κ}
theorem sgo_new {H : Hp} {h : Heap} {a : Addr} {S : κ → Bool} {n : Nat} (R : SetG kk h a S n) : ObjOk P w H h a (SGO kk a S n) := ⟨R, R.ob, fun _ _ p k => SetG.at p k⟩
end
section
variable {X : Cx} {κ : Type} [DecidableEq κ] {kk : KK X.prog X.w κ}
theorem sgo_get {pins : List (Addr × Obj)} {σ : L2.St} {H : Hp} {s : Shared} {a : Addr} {S : κ → Bool} {n : Nat} (I : Inv X pins σ H s) (ha : H a = some (SGO kk a S n)) : SetG kk s.heap a S n := (I.hok a _ ha).1
theorem sgo_add {pins : List (Addr × Obj)} {σ : L2.St} {H : Hp} {s : Shared} {E : Value → Shared → Prop} {D : Addr} {S : κ → Bool} {n : Nat} {k : κ} {v : Value} {Q : Value → Shared → Prop} (I : Inv X pins σ H s) (hD : H D = some (SGO kk D S n)) (room : n + 1 < scanBound) (r : RelV (kk.emb k) v)
    (h : ∀ s', Inv X pins σ (upd H D (SGO kk D (fun j => S j || decide (j = k)) (if S k = true then n else n + 1))) s' → Q .none s') : wpAny (model X.prog X.w) X.A (call (.builtin "set.add") [.ref D, v]) Q E s := by
  refine call_add (kk.of_rel r) (sgo_get I hD) room fun h' sb R => h _ ?_
  exact I.write (e := D) (t' := s.toks + 1) (by rw [hD]; trivial) (.inl rfl) (fun b u hb hu => (sb.2 b hb).trans hu) R.ob (sgo_new R)
end

section
variable {prog : Program} {w : World} {A : Around} {R : Result → Shared → Prop} {s : Shared} {elt t0 i0 t1 i1 : Expr} {ifs0 ifs1 : List Expr} {scope : Scope} {pos : Pos} {it acc : Value} {env : Env}
theorem turn_out (elt t0 i0 t1 i1 : Expr) (ifs0 ifs1 : List Expr) (scope : Scope) (pos : Pos) (it acc : Value) (env : Env) :
    compTurn (.SetComp elt [⟨t0, i0, ifs0, 0⟩, ⟨t1, i1, ifs1, 0⟩] scope pos) 0 it acc env = (do
      standAt i0.pos
      match ← pyNext it with
      | none => pure (.done .next)
      | some v =>
        letOwnedTupleGo t0 it v
        assign t0 env v
        let mut ok := true
        for c in ifs0 do
          if ok then ok ← isTrue c env (eval c env)
        if ok then
          let x ← eval i1 env
          standAt i1.pos
          let x ← foldedSetIterable i1 env x
          let _ ← runOwn (.compStart (.SetComp elt [⟨t0, i0, ifs0, 0⟩, ⟨t1, i1, ifs1, 0⟩] scope pos) 1 (← holding [x] (pyIter x)) acc env) env
        again (.compLoop (.SetComp elt [⟨t0, i0, ifs0, 0⟩, ⟨t1, i1, ifs1, 0⟩] scope pos) 0 it acc env)) := by rfl
theorem turn_in (elt t0 i0 t1 i1 : Expr) (ifs0 ifs1 : List Expr) (scope : Scope) (pos : Pos) (it acc : Value) (env : Env) :
    compTurn (.SetComp elt [⟨t0, i0, ifs0, 0⟩, ⟨t1, i1, ifs1, 0⟩] scope pos) 1 it acc env = (do
      standAt i1.pos
      match ← pyNext it with
      | none => pure (.done .next)
      | some v =>
        letOwnedTupleGo t1 it v
        assign t1 env v
        let mut ok := true
        for c in ifs1 do
          if ok then ok ← isTrue c env (eval c env)
        if ok then
          (do let v ← eval elt env; standAt elt.pos; let _ ← call (.builtin "set.add") [acc, v])
        again (.compLoop (.SetComp elt [⟨t0, i0, ifs0, 0⟩, ⟨t1, i1, ifs1, 0⟩] scope pos) 1 it acc env)) := by rfl
/-- what is wanted of an error within -/
abbrev Nb (prog : Program) (w : World) (A : Around) (env : Env) (R : Result → Shared → Prop) : Value → Shared → Prop := notedBy (model prog w) A env fun e s' => R (.error e) s'
/-- the tests of a clause, from the left -/
abbrev tests (ifs : List Expr) (env : Env) : Sem Bool := forIn ifs true fun c r => if r = true then do let ok ← isTrue c env (eval c env); pure (ForInStep.yield ok) else pure (ForInStep.yield r)
theorem loop_out (hs : ∀ x, foldedSetIterable i1 env x = pure x) (J : Nat → Shared → Prop)
    (turn : ∀ n s, J n s → wpAny (model prog w) A (pyNext it) (fun r s₁ => match r with
      | none => R (.ok .next) s₁
      | some v => wpAny (model prog w) A (letOwnedTupleGo t0 it v) (fun _ s₂ => wpAny (model prog w) A (assign t0 env v) (fun _ s₃ => wpAny (model prog w) A (tests ifs0 env) (fun ok s₄ =>
            if ok = true then wpAny (model prog w) A (eval i1 env) (fun x s₅ => wpAny (model prog w) A (pyIter x) (fun it1 s₆ =>
              codeAny (model prog w) A (.compStart (.SetComp elt [⟨t0, i0, ifs0, 0⟩, ⟨t1, i1, ifs1, 0⟩] scope pos) 1 it1 acc env) (fun r s' => match r with
                | .ok _ => ∃ m, m < n ∧ J m s'
                | .error _ => False) s₆) (Nb prog w A env R) s₅) (Nb prog w A env R) s₄
            else ∃ m, m < n ∧ J m s₄) (Nb prog w A env R) s₃) (Nb prog w A env R) s₂) (Nb prog w A env R) s₁) (Nb prog w A env R) s)
    (n : Nat) (h : J n s) : codeAny (model prog w) A (.compLoop (.SetComp elt [⟨t0, i0, ifs0, 0⟩, ⟨t1, i1, ifs1, 0⟩] scope pos) 0 it acc env) R s := by
  refine codeAny_loop rfl J (fun n s hJ => ?_) n h
  show wpAny _ A ((compTurn (.SetComp elt [⟨t0, i0, ifs0, 0⟩, ⟨t1, i1, ifs1, 0⟩] scope pos) 0 it acc env).onRaise (fun x => do noteFrame x env; theTreesLotGoes x)) _ _ s
  refine wpAny_noted ?_
  rw [turn_out]
  refine wpAny_bind (wpAny_standAt (wpAny_bind (wpAny_mono (turn n s hJ) (fun r s₁ q₁ => ?_) fun _ _ z => z)))
  cases r with
  | none => exact wpAny_pure q₁
  | some v =>
    refine wpAny_bind (wpAny_mono q₁ (fun _ s₂ q₂ => wpAny_bind (wpAny_mono q₂ (fun _ s₃ q₃ => wpAny_bind (wpAny_mono q₃ (fun ok s₄ q₄ => ?_) fun _ _ z => z)) fun _ _ z => z)) fun _ _ z => z)
    cases ok with
    | false => exact wpAny_pure ⟨rfl, q₄⟩
    | true =>
      refine wpAny_bind (wpAny_mono q₄ (fun x s₅ q₅ => wpAny_bind (wpAny_standAt (wpAny_bind (wpAny_of_eq (hs x) (wpAny_bind (wpAny_holding (wpAny_mono q₅ (fun it1 s₆ q₆ => ?_) fun _ _ z => z))))))) fun _ _ z => z)
      refine wpAny_bind (wpAny_runOwn ?_)
      rw [Around.mark_none]
      refine codeAny_mono q₆ fun r s' hr => ?_
      cases r with
      | ok f => first | exact wpAny_pure ⟨rfl, hr⟩ | exact wpAny_bind (wpAny_pure (wpAny_pure ⟨rfl, hr⟩))
      | error e => exact hr.elim
theorem loop_in (J : Nat → Shared → Prop)
    (turn : ∀ n s, J n s → wpAny (model prog w) A (pyNext it) (fun r s₁ => match r with
      | none => R (.ok .next) s₁
      | some v => wpAny (model prog w) A (letOwnedTupleGo t1 it v) (fun _ s₂ => wpAny (model prog w) A (assign t1 env v) (fun _ s₃ => wpAny (model prog w) A (tests ifs1 env) (fun ok s₄ =>
            if ok = true then wpAny (model prog w) A (eval elt env) (fun x s₅ =>
              wpAny (model prog w) A (call (.builtin "set.add") [acc, x]) (fun _ s₆ => ∃ m, m < n ∧ J m s₆) (Nb prog w A env R) s₅) (Nb prog w A env R) s₄
            else ∃ m, m < n ∧ J m s₄) (Nb prog w A env R) s₃) (Nb prog w A env R) s₂) (Nb prog w A env R) s₁) (Nb prog w A env R) s)
    (n : Nat) (h : J n s) : codeAny (model prog w) A (.compLoop (.SetComp elt [⟨t0, i0, ifs0, 0⟩, ⟨t1, i1, ifs1, 0⟩] scope pos) 1 it acc env) R s := by
  refine codeAny_loop rfl J (fun n s hJ => ?_) n h
  show wpAny _ A ((compTurn (.SetComp elt [⟨t0, i0, ifs0, 0⟩, ⟨t1, i1, ifs1, 0⟩] scope pos) 1 it acc env).onRaise (fun x => do noteFrame x env; theTreesLotGoes x)) _ _ s
  refine wpAny_noted ?_
  rw [turn_in]
  refine wpAny_bind (wpAny_standAt (wpAny_bind (wpAny_mono (turn n s hJ) (fun r s₁ q₁ => ?_) fun _ _ z => z)))
  cases r with
  | none => exact wpAny_pure q₁
  | some v =>
    refine wpAny_bind (wpAny_mono q₁ (fun _ s₂ q₂ => wpAny_bind (wpAny_mono q₂ (fun _ s₃ q₃ => wpAny_bind (wpAny_mono q₃ (fun ok s₄ q₄ => ?_) fun _ _ z => z)) fun _ _ z => z)) fun _ _ z => z)
    cases ok with
    | false => exact wpAny_pure ⟨rfl, q₄⟩
    | true => exact wpAny_bind (wpAny_bind (wpAny_mono q₄ (fun x s₅ q₅ => wpAny_bind (wpAny_standAt (wpAny_bind (wpAny_mono q₅ (fun _ s₆ q₆ => wpAny_pure (wpAny_pure ⟨rfl, q₆⟩)) fun _ _ z => z)))) fun _ _ z => z))
/-- the second clause begins -/
theorem start_in (h0 : codeAny (model prog w) A (.compLoop (.SetComp elt [⟨t0, i0, ifs0, 0⟩, ⟨t1, i1, ifs1, 0⟩] scope pos) 1 it acc env) R s)
    (h : wpAny (model prog w) A (pyIter it) (fun it' s' => codeAny (model prog w) A (.compLoop (.SetComp elt [⟨t0, i0, ifs0, 0⟩, ⟨t1, i1, ifs1, 0⟩] scope pos) 1 it' acc env) R s') (Nb prog w A env R) s) :
    codeAny (model prog w) A (.compStart (.SetComp elt [⟨t0, i0, ifs0, 0⟩, ⟨t1, i1, ifs1, 0⟩] scope pos) 1 it acc env) R s := by
  refine codeAny_of_tree ?_
  show wpAny _ _ ((compStart (.SetComp elt [⟨t0, i0, ifs0, 0⟩, ⟨t1, i1, ifs1, 0⟩] scope pos) 1 it acc env).onRaise (fun x => do noteFrame x env; standAt theWindowsPlace)) _ _ s
  refine wpAny_notedAt ?_
  unfold compStart
  show wpAny _ _ (ask >>= _) _ _ s
  refine wpAny_bind (wpAny_askSetting (wpAny_ite ?_))
  split
  · first | exact wpAny_bind (wpAny_pure (wpAny_pure ⟨rfl, h0⟩)) | exact wpAny_pure ⟨rfl, h0⟩
  · refine wpAny_bind (wpAny_rule ?_)
    show wpAny _ _ (standAt i1.pos >>= _) _ _ s
    exact wpAny_bind (wpAny_standAt (wpAny_bind (wpAny_mono h (fun it' s' q => wpAny_pure ⟨rfl, q⟩) fun _ _ z => z)))
end

section
variable {X : Cx} {κ : Type} [DecidableEq κ]
/-- what one item does: a key is added to the set at D -/
def tAdd (kk : KK X.prog X.w κ) (D : Addr) (te : TE) (σ : L2.St) (H : Hp) (Nx : Hp → Prop) : Prop := te σ H fun y H' => ∃ (k : κ) (S : κ → Bool) (n : Nat), y = kk.emb k ∧ H' D = some (SGO kk D S n) ∧ n + 1 < scanBound ∧ Nx (upd H' D (SGO kk D (fun j => S j || decide (j = k)) (if S k = true then n else n + 1)))
/-- {elt for tg in iter if .. for tg1 in iter1 if ..} -/
def tSet2 (kk : KK X.prog X.w κ) (wi : TI) (g : TG) (tt : TT) (wi1 : TI) (g1 : TG) (tt1 : TT) (te : TE) (vs vs1 : List Nat) : TE := fun σ H Q => wi σ H fun J H1 => ∀ D, H1 D = none → ∃ W : Nat → Nat → Hp → Prop, (∃ m, W 0 m (upd H1 D (SGO kk D (fun _ => false) 0))) ∧ ∀ i m H, W i m H →
  (J.stop i H ∧ Q (.ref D) H) ∨ (J.go i H ∧ ∃ Nx : Hp → Prop, (∀ H', Nx H' → ∃ m', m' < m ∧ W (i + 1) m' H') ∧ ∀ x H', J.yld i H x H' → g x (wipe σ vs) H' fun σ2 H2 => wipe σ2 vs = wipe σ vs ∧ tt σ2 H2 fun b H3 =>
    if b = true then wi1 σ2 H3 fun J1 H4 => ∃ W1 : Nat → Nat → Hp → Prop, (∃ m, W1 0 m H4) ∧ ∀ j k H, W1 j k H →
      (J1.stop j H ∧ Nx H) ∨ (J1.go j H ∧ ∃ Nx1 : Hp → Prop, (∀ H', Nx1 H' → ∃ k', k' < k ∧ W1 (j + 1) k' H') ∧ ∀ x H', J1.yld j H x H' → g1 x (wipe σ2 vs1) H' fun σ3 H5 => wipe σ3 vs1 = wipe σ2 vs1 ∧ tt1 σ3 H5 fun b H6 =>
        if b = true then tAdd kk D te σ3 H6 Nx1 else Nx1 H6)
    else Nx H3)
/-- what a block's part must be, wherever the block stands -/
abbrev Blk (X : Cx) (scope : Scope) (T : Cx → Prop) : Prop := ∀ (s : Shared) (H : Hp) (C : Addr) (cl : List (Str × Addr)) (fp : List Addr), T (X.blk s H scope (compEnvC scope cl C X.env) fp)
theorem pe_set2 {kk : KK X.prog X.w κ} {elt tg iter tg1 iter1 : Expr} {ifs ifs1 : List Expr} {scope : Scope} {own : List (Str × Nat)} {vs1 : List Nat} {pos : Pos} {wi wi1 : TI} {g g1 : TG} {tt tt1 : TT} {te : TE} (hc : X.calm = true) (hN : X.N.Nodup) (hi : PI X tg iter wi) (ok : BlkOk X.N X.env.scope scope own) (hv : ∀ i ∈ vs1, i ∈ own.map (·.2))
    (hg : Blk X scope fun Y => PG Y tg g) (ht : Blk X scope fun Y => PTs Y ifs tt) (hi1 : Blk X scope fun Y => PI Y tg1 iter1 wi1) (hg1 : Blk X scope fun Y => PG Y tg1 g1) (ht1 : Blk X scope fun Y => PTs Y ifs1 tt1) (he : Blk X scope fun Y => PE Y elt te)
    (hs : ∀ x, foldedSetIterable iter X.env x = pure x := by intro _; rfl) (hs1 : ∀ env x, foldedSetIterable iter1 env x = pure x := by intro _ _; rfl) :
    PE X (.SetComp elt [⟨tg, iter, ifs, 0⟩, ⟨tg1, iter1, ifs1, 0⟩] scope pos) (tSet2 kk wi g tt wi1 g1 tt1 te (own.map (·.2)) vs1) := by
  refine ⟨fun pins s σ H Q I h => ?_⟩
  rw [eval_SetComp]
  have hfree : ∀ y ∈ scope.names, y.2 = .free → ∃ c, X.env.cells.lookup y.1 = some c := fun y hy e => by
    rcases ok.free y hy e with k | k
    · exact I.ok.has _ (.inl k)
    · exact I.ok.has _ (.inr k)
  refine wpAny_comprehension_free (use := none) rfl hs (closure_ok hfree) ok.kind (fun y hy e => by rw [ok.uniq y hy, e])
    (thn (hi.run pins s σ H _ I h) fun xv s1 hx => thn hx fun itv s2 h2 => ?_)
  obtain ⟨it, fp, tn, J, H2, e, I2, T, st2, f2, q⟩ := h2
  subst e
  refine newSet_ok (newEnv_comp ?_)
  generalize hD : s2.heap.objs.size = D
  have hDn : H2 D = none := I2.hok.fresh (Nat.le_of_eq hD)
  obtain ⟨W, ⟨m0, w0⟩, turn⟩ := q D hDn
  generalize hs3 : ({ s2 with heap := s2.heap.push { cls := .type "set", dict := none, data := .set #[] 0 (.fresh 0 0 (!X.w.params.followText "set-order")) } } : Shared) = s3
  have h3 : s3.heap = s2.heap.push { cls := .type "set", dict := none, data := .set #[] 0 (.fresh 0 0 (!X.w.params.followText "set-order")) } := by rw [← hs3]
  have I3 : Inv X pins σ (upd H2 D (SGO kk D (fun _ => false) 0)) s3 := by
    rw [← hs3]
    refine I2.laid (t' := s2.toks) (fun b o e => Heap.get?_push_of_some _ e) (Nat.le_of_eq hD) ?_
    rw [← hD]
    exact sgo_new setG_new
  have hlt : ∀ b ∈ fp, b < s2.heap.objs.size := fun b hb => by
    obtain ⟨o, e, _⟩ := T.obj _ _ st2 b hb
    exact Heap.lt_size e
  have f3 : ∀ b ∈ fp, FpOk X pins (upd H2 D (SGO kk D (fun _ => false) 0)) b ∧ b < s3.heap.objs.size := fun b hb => by
    refine ⟨⟨?_, (f2 b hb).2⟩, by rw [h3, Heap.size_push]; exact Nat.lt_succ_of_lt (hlt b hb)⟩
    rw [upd_ne (by rw [← hD]; exact Nat.ne_of_lt (hlt b hb))]
    exact (f2 b hb).1
  have st3 : tn 0 s3.heap := T.keep _ _ _ st2 fun b _ o e => by rw [h3]; exact Heap.get?_push_of_some _ e
  have I4 := block_start I3 ok hN f3
  have all := fun {T : Cx → Prop} (z : Blk X scope T) => z s3 (upd H2 D (SGO kk D (fun _ => false) 0)) s3.heap.objs.size (cellsFrom (s3.heap.objs.size + 1) scope.names (cloFrom X.env.cells scope.names [])) fp
  have pg := all hg
  have pt := all ht
  have pe := all he
  have pi1 := all hi1
  have pg1 := all hg1
  have pt1 := all ht1
  clear all
  show codeAny _ _ (.compStart (.SetComp elt [⟨tg, iter, ifs, 0⟩, ⟨tg1, iter1, ifs1, 0⟩] scope pos) 0 (.ref it) (.ref D) (compEnvC scope (cellsFrom (s3.heap.objs.size + 1) scope.names (cloFrom X.env.cells scope.names [])) s3.heap.objs.size X.env)) (compPost (model X.prog X.w) X.A X.xe none _ (.ref D) s3.heap.objs.size) { s3 with heap := pushCells (s3.heap.push { cls := .type "dict", data := .dict #[] }) scope.names }
  have nfp : ∀ b ∈ fp, (upd H2 D (SGO kk D (fun _ => false) 0)) b = none := fun b hb => (f3 b hb).1.1
  generalize hce : compEnvC scope (cellsFrom (s3.heap.objs.size + 1) scope.names (cloFrom X.env.cells scope.names [])) s3.heap.objs.size X.env = ce at I4 pg pt pe pi1 pg1 pt1 ⊢
  have cL : ce.locals = s3.heap.objs.size := by subst hce; rfl
  generalize hH3 : upd H2 D (SGO kk D (fun _ => false) 0) = H3 at I3 I4 pg pt pe pi1 pg1 pt1 w0 nfp f3
  generalize hs4 : ({ s3 with heap := pushCells (s3.heap.push { cls := .type "dict", data := .dict #[] }) scope.names } : Shared) = s4 at I4 ⊢
  have st4 : tn 0 s4.heap := T.keep _ _ _ st3 fun b _ o e => by rw [← hs4]; exact pushCells_keeps _ _ _ _ (Heap.get?_push_of_some _ e)
  generalize hY : X.blk s3 H3 scope ce fp = Y at I4 pg pt pe pi1 pg1 pt1
  have yp : Y.prog = X.prog := by rw [← hY]
  have stat : ∀ {σ' : L2.St} {H' : Hp} {s' : Shared}, Inv (X.blk s3 H3 scope ce fp) [] σ' H' s' → (∀ b ∈ fp, H' b = none) → ∀ b ∈ fp, FpOk (X.blk s3 H3 scope ce fp) [] H' b := fun {σ' H' s'} I' hn b hb =>
    ⟨hn b hb, (I'.ok.exf b hb).1, I'.ok.exfs b hb, .inl hb, fun x c e => (I'.ok.exf b hb).2 x c e, fun p hp => absurd (show p ∈ ([] : List (Addr × Obj)) ++ [] from hp) (by simp)⟩
  subst hY
  have loop : codeAny (model X.prog X.w) X.A (.compLoop (.SetComp elt [⟨tg, iter, ifs, 0⟩, ⟨tg1, iter1, ifs1, 0⟩] scope pos) 0 (.ref it) (.ref D) ce) (compPost (model X.prog X.w) X.A X.xe none (EP X pins σ Q) (.ref D) s3.heap.objs.size) s4 := by
    refine loop_out (hs1 ce) (fun n s' => ∃ i H', Inv (X.blk s3 H3 scope ce fp) [] (wipe σ (own.map (·.2))) H' s' ∧ tn i s'.heap ∧ (∀ b ∈ fp, H' b = none) ∧ W i n H') ?_ m0 ⟨0, H3, I4, st4, nfp, w0⟩
    rintro n s5 ⟨i, H5, I5, st5, n5, w5⟩
    rcases turn i n H5 w5 with ⟨stop, qq⟩ | ⟨go, Nx, hNx, step⟩
    · refine thnF (T.done (X.blk s3 H3 scope ce fp) rfl rfl rfl hc i [] s5 _ H5 (fun _ _ => False) I5 (stat I5 n5) st5 stop) fun r s6 ⟨hr, I6⟩ => ?_
      subst hr
      have I7 : Inv X pins σ H5 s6 := I3.call' (ch := fp) I6.os I6.base I6.hok I6.bare fun b hb => ⟨(f3 b hb).1.2.2.2.1, (f3 b hb).1.2.1, (f3 b hb).1.2.2.2.2.1, (f3 b hb).1.2.2.2.2.2⟩
      have nC : H5 s3.heap.objs.size = none := cL ▸ (show H5 ce.locals = none from I6.free)
      obtain ⟨m, hn, _⟩ := I6.loc
      have hn' : s6.heap.Ns s3.heap.objs.size m := cL ▸ (show s6.heap.Ns ce.locals m from hn)
      refine ⟨m, hn', fun h'' sb => ?_⟩
      obtain ⟨z0, z1, z2, z3, z4, z5⟩ := I3.fpOk (Nat.le_refl _) nC
      exact ⟨.ref D, H5, I7.turned (t' := s6.toks) (fun b o hb e => (sb.2 b hb).trans e) z0 z1 z3 z4 z5, rfl, qq⟩
    · refine thnF (T.item (X.blk s3 H3 scope ce fp) rfl rfl rfl hc i [] s5 _ H5 (fun _ _ => False) I5 (stat I5 n5) st5 go) fun r s6 ⟨u, hr, h6⟩ => ?_
      subst hr
      refine thnF h6 fun _ s7 ⟨x, H7, I7, r7, y7, st7, n7⟩ => ?_
      have I7' := I7.pinned (stat I7 n7) (T.obj _ _ st7)
      refine thnF (pg.run _ s7 _ H7 x u _ I7' r7 (step x H7 y7)) fun _ s8 ⟨σ8, H8, I8, hw8, q8⟩ => ?_
      refine thnF (pt.run _ s8 σ8 H8 _ I8 q8) fun b s9 ⟨H9, I9, q9⟩ => ?_
      have fin : ∀ {σ9 : L2.St} {s' : Shared} {H' : Hp}, Inv (X.blk s3 H3 scope ce fp) ([] ++ pinsAt fp s7.heap) σ9 H' s' → (wipe σ (own.map (·.2))).length = σ9.length → (∀ (j : Nat) v, (wipe σ (own.map (·.2)))[j]? = some (some v) → σ9[j]? = some (some v)) → Nx H' →
          ∃ m, m < n ∧ ∃ i H', Inv (X.blk s3 H3 scope ce fp) [] (wipe σ (own.map (·.2))) H' s' ∧ tn i s'.heap ∧ (∀ b ∈ fp, H' b = none) ∧ W i m H' := fun {σ9 s' H'} I' hl hk nx => by
        obtain ⟨m', hm, w'⟩ := hNx H' nx
        have pin' : ∀ b ∈ fp, ∀ o, s7.heap.get? b = some o → s'.heap.get? b = some o ∧ H' b = none := fun b hb o e => by
          have z := I'.pin (b, o) (List.mem_append_right _ (List.mem_append_right _ (mem_pinsAt hb e)))
          exact ⟨z.1, z.2.1⟩
        refine ⟨m', hm, i + 1, H', (I'.unpinned (pins := [])).weak hl hk, T.keep _ _ _ st7 fun b hb o e => (pin' b hb o e).1, fun b hb => ?_, w'⟩
        obtain ⟨o, e, _⟩ := T.obj _ _ st7 b hb
        exact (pin' b hb o e).2
      have hl8 : (wipe σ (own.map (·.2))).length = σ8.length := by rw [← hw8, wipe_length]
      have hk8 : ∀ (j : Nat) v, (wipe σ (own.map (·.2)))[j]? = some (some v) → σ8[j]? = some (some v) := fun j v e => by
        rw [← hw8] at e
        exact (wipe_some e).1
      have hk9 : ∀ (j : Nat) v, (wipe σ (own.map (·.2)))[j]? = some (some v) → (wipe σ8 vs1)[j]? = some (some v) := fun j v e => by
        rw [← hw8] at e
        obtain ⟨e1, e2⟩ := wipe_some e
        rw [wipe_out fun z => e2 (hv j z)]
        exact e1
      cases b with
      | false => exact fin I9 hl8 hk8 q9
      | true =>
        simp only [if_true] at q9 ⊢
        refine thnF (pi1.run _ s9 σ8 H9 _ I9 q9) fun xv s10 hx => thnF hx fun itv s11 h11 => ?_
        obtain ⟨it1, fp1, tn1, J1, H11, e1, I11, T1, st11, f11, W1, ⟨m1, w1⟩, turn1⟩ := h11
        subst e1
        have stat1 : ∀ {H' : Hp}, (∀ b ∈ fp1, H' b = none) → ∀ b ∈ fp1, FpOk (X.blk s3 H3 scope ce fp) ([] ++ pinsAt fp s7.heap) H' b := fun hn b hb => ⟨hn b hb, (f11 b hb).2⟩
        have loop1 : codeAny (model X.prog X.w) X.A (.compLoop (.SetComp elt [⟨tg, iter, ifs, 0⟩, ⟨tg1, iter1, ifs1, 0⟩] scope pos) 1 (.ref it1) (.ref D) ce)
            (fun r s' => match r with
              | .ok _ => ∃ m, m < n ∧ ∃ i H', Inv (X.blk s3 H3 scope ce fp) [] (wipe σ (own.map (·.2))) H' s' ∧ tn i s'.heap ∧ (∀ b ∈ fp, H' b = none) ∧ W i m H'
              | .error _ => False) s11 := by
          refine loop_in (fun k s' => ∃ j H', Inv (X.blk s3 H3 scope ce fp) ([] ++ pinsAt fp s7.heap) (wipe σ8 vs1) H' s' ∧ tn1 j s'.heap ∧ (∀ b ∈ fp1, H' b = none) ∧ W1 j k H') ?_ m1 ⟨0, H11, I11.weak (wipe_length _ _) (fun j v e => (wipe_some e).1), st11, fun b hb => (f11 b hb).1, w1⟩
          rintro k s12 ⟨j, H12, I12, st12, n12, w12⟩
          rcases turn1 j k H12 w12 with ⟨stop1, nx1⟩ | ⟨go1, Nx1, hNx1, step1⟩
          · refine thnF (T1.done (X.blk s3 H3 scope ce fp) rfl rfl rfl hc j _ s12 (wipe σ8 vs1) H12 (fun _ _ => False) I12 (stat1 n12) st12 stop1) fun r s13 ⟨hr, I13⟩ => ?_
            subst hr
            exact fin I13 (hl8.trans (wipe_length σ8 vs1).symm) hk9 nx1
          · refine thnF (T1.item (X.blk s3 H3 scope ce fp) rfl rfl rfl hc j _ s12 (wipe σ8 vs1) H12 (fun _ _ => False) I12 (stat1 n12) st12 go1) fun r s13 ⟨u1, hr, h13⟩ => ?_
            subst hr
            refine thnF h13 fun _ s14 ⟨x1, H14, I14, r14, y14, st14, n14⟩ => ?_
            have I14' := I14.pinned (stat1 n14) (T1.obj _ _ st14)
            refine thnF (pg1.run _ s14 (wipe σ8 vs1) H14 x1 u1 _ I14' r14 (step1 x1 H14 y14)) fun _ s15 ⟨σ15, H15, I15, hw15, q15⟩ => ?_
            refine thnF (pt1.run _ s15 σ15 H15 _ I15 q15) fun b1 s16 ⟨H16, I16, q16⟩ => ?_
            have fin1 : ∀ {s' : Shared} {H' : Hp}, Inv (X.blk s3 H3 scope ce fp) (([] ++ pinsAt fp s7.heap) ++ pinsAt fp1 s14.heap) σ15 H' s' → Nx1 H' → ∃ m, m < k ∧ ∃ j H', Inv (X.blk s3 H3 scope ce fp) ([] ++ pinsAt fp s7.heap) (wipe σ8 vs1) H' s' ∧ tn1 j s'.heap ∧ (∀ b ∈ fp1, H' b = none) ∧ W1 j m H' := fun {s' H'} I' nx => by
              obtain ⟨m', hm, w'⟩ := hNx1 H' nx
              have pin' : ∀ b ∈ fp1, ∀ o, s14.heap.get? b = some o → s'.heap.get? b = some o ∧ H' b = none := fun b hb o e => by
                have z := I'.pin (b, o) (List.mem_append_right _ (List.mem_append_right _ (mem_pinsAt hb e)))
                exact ⟨z.1, z.2.1⟩
              refine ⟨m', hm, j + 1, H', I'.unpinned.weak (by rw [← hw15, wipe_length]) (fun j v e => by rw [← hw15] at e; exact (wipe_some e).1), T1.keep _ _ _ st14 fun b hb o e => (pin' b hb o e).1, fun b hb => ?_, w'⟩
              obtain ⟨o, e, _⟩ := T1.obj _ _ st14 b hb
              exact (pin' b hb o e).2
            cases b1 with
            | false => exact fin1 I16 q16
            | true =>
              simp only [if_true] at q16 ⊢
              refine thnF (pe.run _ s16 σ15 H16 _ I16 q16) fun z s17 ⟨yv, H17, I17, r17, kx, S0, n0, ey, hD17, hz17, nx⟩ => ?_
              subst ey
              exact sgo_add (X := X.blk s3 H3 scope ce fp) (kk := kk) I17 hD17 hz17 r17 fun s18 I18 => fin1 I18 nx
        exact start_in loop1 (T1.self X.A 0 _ _ _ st11 loop1)
  exact codeAny_compStart_set loop (T.self X.A 0 _ _ _ st4 loop)
end
end SG

set_option Elab.async false
set_option linter.all false
set_option maxRecDepth 100000
set_option maxHeartbeats 4000000
/-! sorted(a set of texts), sorted(a set of ints), any number of members. -/
namespace SG
open PySem PySem.Spec PyProof.Rows L2
section
variable {P : Program} {w : World} {A : Around} {E : Value → Shared → Prop} {s : Shared} {a : Addr} {n : Nat}
/-- the start of sorted(set): its members laid in a new list -/
theorem sorted_start {κ : Type} [DecidableEq κ] {kk : KK P w κ} {S : κ → Bool} {Q : Value → Shared → Prop} (hh : A.handled = none) (R : SetG kk s.heap a S n)
    (h : ∀ (s1 : Shared) (vs : List Value) (l : List κ), (∀ b o, s.heap.get? b = some o → s1.heap.get? b = some o) → s.heap.objs.size ≤ s1.heap.objs.size → s1.gens = s.gens → s1.os = s.os → Vals (l.map kk.emb) vs → l.Nodup → (∀ k, k ∈ l ↔ S k = true) → vs.length ≤ sizeLine →
      (s1.heap.push (seqObj "list" vs.toArray 0)).get? s1.heap.objs.size = some (seqObj "list" vs.toArray 0) →
      wpAny (model P w) A.in1.in1 (Builtin.«list.sort» ⟨[.ref s1.heap.objs.size], []⟩) (fun r s' => r = .done (.ret .none) ∧ Q (.ref s1.heap.objs.size) s') (fun e s' => E e s') { s1 with heap := s1.heap.push (seqObj "list" vs.toArray 0) }) :
    wpAny (model P w) A (call (.builtin "sorted") [.ref a]) Q E s := by
  have hb : n < scanBound := by
    obtain ⟨_, _, _, _, _, _, _, ⟨h1, h2⟩, _⟩ := R
    rw [← h2]; exact h1
  refine Calls.call_function_entry kind_sorted plain_sorted entry_sorted (args_sorted1 _) ?_
  unfold Builtin.«sorted»
  refine wpAny_bind (m := checkCount "sorted" 1 1 _) (wpAny_pure ?_)
  refine wpAny_bind (collect_G (A := A.in1) hh R fun s1 vs l k1 z g1 o1 rv nd hm hl => ?_)
  have hz : vs.length ≤ sizeLine := by
    have : scanBound = 4096 := rfl
    rw [← rv.length, List.length_map, hl, sizeLine_eq]
    omega
  refine wpAny_bind (wpAny_newList ?_ hz)
  have hoL : (s1.heap.push (seqObj "list" vs.toArray 0)).get? s1.heap.objs.size = some (seqObj "list" vs.toArray 0) := Heap.get?_push_size _ rfl
  refine wpAny_bind (wpAny_holding (wpAny_call_entry slot_list_sort ⟨_, hoL, rfl⟩ entry_list_sort ?_ (args_list_sort _)))
  refine wpAny_mono (h s1 vs l k1 z g1 o1 rv nd hm hz hoL) (fun r s' ⟨hr, q⟩ => ?_) fun _ _ q => q
  subst hr
  exact ⟨_, rfl, wpAny_pure ⟨_, rfl, q⟩⟩
end
section
variable {X : Cx}
/-- sorted(s), s a set of texts -/
def rSortG {κ : Type} [DecidableEq κ] (kk : KK X.prog X.w κ) (srt : List κ → Prop) : List V → Hp → VK → Prop := fun vs H Q => ∃ (a : Addr) (S : κ → Bool) (n : Nat), vs = [V.ref a] ∧ H a = some (SGO kk a S n) ∧
  ∀ (l : List κ) (p : Addr), l.Nodup → (∀ k, k ∈ l ↔ S k = true) → srt l → H p = none → Q (.ref p) (upd H p (.lst (l.map kk.emb)))
theorem old_of {s s1 : Shared} {vs : List Value} {out : Array Value} (k : ∀ b o, s.heap.get? b = some o → s1.heap.get? b = some o) (b : Addr) (o : Obj) (e : s.heap.get? b = some o) :
    (sortedHeap (s1.heap.push (seqObj "list" vs.toArray 0)) s1.heap.objs.size vs out).get? b = some o := by
  have q := k b o e
  have hlt := Heap.lt_size q
  rw [sortedHeap_old (Nat.ne_of_lt hlt) (by rw [size_push']; exact Nat.lt_succ_of_lt hlt)]
  exact Heap.get?_push_of_some _ q
theorem cr_sortSetS (hc : X.calm = true) : CallR X (.builtin "sorted") (rSortG (kkStr X.prog X.w) fun l => sortedS l = true) := by
  intro pins s σ H vs us Q I r h
  obtain ⟨a, S, n, rfl, ha, q⟩ := h
  rw [Vals.ref1 r]
  refine sorted_start (I.ok.hd hc) (sgo_get I ha) fun s1 ws l k1 z g1 o1 rv nd hm hz hoL => ?_
  have rv' : Vals (l.map V.str) ws := rv
  have hS := rv'.strs
  refine list_sort_treeKAny strKind_oneLt hoL hS.keysOf (fun v₁ v₂ rest e => keyKind_strs (by rw [← e]; exact hS)) hz fun st' hp hs => ⟨rfl, ?_⟩
  obtain ⟨ys, h1, h2, h3⟩ := sorted_out_str hS hp hs
  generalize (arrOf st').map (·.2) = out at h1 ⊢
  obtain ⟨c, hc'⟩ := sortedHeap_at (vs := ws) (out := out) hoL
  have hlen : (ys.map V.str).length ≤ sizeLine := by rw [List.length_map, h2.length_eq, ← List.length_map (f := V.str), rv'.length]; exact hz
  have hn : H s1.heap.objs.size = none := I.hok.fresh z
  have I2 := I.laid (t' := s1.toks) (o := .lst (ys.map V.str)) (a := s1.heap.objs.size) (h' := sortedHeap (s1.heap.push (seqObj "list" ws.toArray 0)) s1.heap.objs.size ws out) (old_of k1) z ⟨hlen, out.toList, c, vals_of_strs h1, by simpa using hc'⟩
  refine ⟨.ref _, _, ?_, rfl, q ys s1.heap.objs.size (h2.nodup_iff.mpr nd) (fun k => by rw [h2.mem_iff, hm k]) h3 hn⟩
  exact { I2 with os := o1.trans I2.os, bare := by have := I2.bare; rw [← g1] at this; exact this }
end
end SG

set_option Elab.async false
set_option linter.all false
set_option maxRecDepth 100000
set_option maxHeartbeats 4000000
/-! The data layer: comprehensions with two clauses, lists and sets. -/
namespace DL
open PySem PySem.Spec PyProof.Rows L2 SG

/-! ### what is walked, uniformly -/
def iStar (X : Cx) (fa : Option FA) (W : L2.St → XK) (f : Env' → M (List D)) : TI := fun σ H R => ∃ F ρ s, Same F H ∧ FeedOk X.K fa F H s ∧ EnvOk X.K fa F σ ρ ∧ GoodI X fa (W σ) F H (f ρ s) R
theorem IJ.star {X : Cx} {fa : Option FA} {W : L2.St → XK} {tg e : Expr} {f : Env' → M (List D)} (h : IJ X fa W tg e f) : PI X tg e (iStar X fa W f) := by
  obtain ⟨t, p, k⟩ := h
  exact ⟨fun pins s σ H R I ⟨F, ρ, s', h1, h2, h3, h4⟩ => p.run pins s σ H R I (k σ F H ρ s' R h1 h2 h3 h4)⟩

/-! ### what is computed -/
def lcE2 (b : D → Option Asg) (c : Env' → M Bool) (it1 : Env' → M (List D)) (b1 : D → Option Asg) (c1 : Env' → M Bool) (f : Env' → M D) : List D → Env' → M (List D)
  | [], _ => M.pure []
  | x :: xs, ρ => (M.lift (b x)).bind fun as => (c (setE as ρ)).bind fun k => if k = true then (it1 (setE as ρ)).bind fun ys => (lcE b1 c1 f ys (setE as ρ)).bind fun us => (lcE2 b c it1 b1 c1 f xs ρ).bind fun vs => M.pure (us ++ vs)
    else lcE2 b c it1 b1 c1 f xs ρ
/-- at most lim items, each as it may be -/
def fitsL (lim : Nat) (okI : D → Bool) (ys : List D) : Bool := decide (ys.length ≤ lim) && ys.all okI
def dLc2 (lim : Nat) (okI : D → Bool) (vs : List Nat) (it : Env' → M (List D)) (b : D → Option Asg) (c : Env' → M Bool) (it1 : Env' → M (List D)) (b1 : D → Option Asg) (c1 : Env' → M Bool) (f : Env' → M D) : Env' → M (List D) := fun ρ => (it ρ).bind fun xs => (M.quiet (lcE2 b c it1 b1 c1 f xs (wipeE ρ vs))).bind fun ys => if fitsL lim okI ys = true then M.pure ys else M.bad

/-! ### how the things gathered stand -/
theorem sg_noTab {P : Program} {w : World} {κ : Type} [DecidableEq κ] {kk : KK P w κ} {a : Addr} {S : κ → Bool} {n : Nat} : NoTab (SGO kk a S n) := by
  refine ⟨fun ps z => (by unfold SGO at z; cases z), fun c q z => ?_⟩
  unfold SGO LamX.CodeO at z
  have z2 := HO.ext.inj z
  have hget : ∀ b, b < a + c + 1 → (⟨Array.replicate (a + c + 1) { cls := .none, data := .fields #[.none, .str q 0] }, default⟩ : Heap).get? b = some { cls := .none, data := .fields #[.none, .str q 0] } := fun b hb => by
    unfold Heap.get?
    have : (Array.replicate (a + c + 1) ({ cls := .none, data := .fields #[.none, .str q 0] } : Obj))[b]? = some { cls := .none, data := .fields #[.none, .str q 0] } := by
      rw [Array.getElem?_replicate, if_pos hb]
    simp only [this]
  have e := congrFun z2 ⟨Array.replicate (a + c + 1) { cls := .none, data := .fields #[.none, .str q 0] }, default⟩
  have hc : SetG kk ⟨Array.replicate (a + c + 1) { cls := .none, data := .fields #[.none, .str q 0] }, default⟩ a S n := by
    rw [e]
    exact ⟨_, _, _, hget c (Nat.lt_succ_of_le (Nat.le_add_left c a)), rfl, rfl⟩
  obtain ⟨o, es, ep, t, ho, ⟨_, hd⟩, _⟩ := hc
  rw [hget a (Nat.lt_succ_of_le (Nat.le_add_right a c))] at ho
  cases ho
  cases hd
structure AccK (X : Cx) (fa : Option FA) where
  u0 : Addr → HO
  item : Addr → TE → L2.St → Hp → (Hp → Prop) → Prop
  At : Hp → Addr → List D → HO → Prop
  lim : Nat
  okI : D → Bool
  start : ∀ F a, At F a [] (u0 a)
  mono : ∀ F F' a acc u, Same F F' → At F a acc u → At F' a acc u
  nt : ∀ F a acc u, At F a acc u → NoTab u
  /-- one item more, the item's reading being that of data -/
  add : ∀ (a : Addr) (F H : Hp) (σ : L2.St) (ρ : Env') (s s' : FS) (f : Env' → M D) (y : D) (acc : List D) (Nx : Hp → Prop), Same F H → FeedOk X.K fa F H s → EnvOk X.K fa F σ ρ → f ρ s = .ok y s' → okI y = true → acc.length < lim →
    (∀ v F' H', Ext fa F H F' H' → FeedOk X.K fa F' H' s' → Rep X.K fa F' y v → ∃ u, H' a = some u ∧ At F' a acc u ∧ ∀ u', At F' a (acc ++ [y]) u' → Nx (upd H' a u')) → item a (tStar X fa Wno f) σ H Nx
structure GSt (X : Cx) (fa : Option FA) (C : AccK X fa) (F1 H1 : Hp) (D' : Addr) (F H : Hp) (acc : List D) (s : FS) : Prop where
  ext : Ext fa F1 H1 F H
  fd : FeedOk X.K fa F H s
  fD : F D' = none
  nD : H1 D' = none
  nf : Nfa fa D'
  at_ : ∃ u, H D' = some u ∧ C.At F D' acc u
section
variable {X : Cx} {fa : Option FA} {C : AccK X fa} {F1 H1 F H F' H' : Hp} {D' : Addr} {acc : List D} {s s' : FS}
theorem GSt.step (c : GSt X fa C F1 H1 D' F H acc s) (e : Ext fa F H F' H') (fo : FeedOk X.K fa F' H' s') : GSt X fa C F1 H1 D' F' H' acc s' := by
  obtain ⟨u, h, r⟩ := c.at_
  exact ⟨c.ext.trans e, fo, (e.fr D' (by rw [h]; simp)).trans c.fD, c.nD, c.nf, u, e.hh _ _ h c.nf, C.mono _ _ _ _ _ e.ff r⟩
theorem GSt.put (c : GSt X fa C F1 H1 D' F H acc s) {ys : List D} {u' : HO} (r : C.At F D' ys u') : GSt X fa C F1 H1 D' F (upd H D' u') ys s := by
  refine ⟨⟨c.ext.ff, fun b u z => ?_, fun b u z n => ?_, c.ext.fr, fun b z => ?_⟩, fun φ q => ?_, c.fD, c.nD, c.nf, _, upd_same, r⟩
  · rw [upd_ne (ne_of_none z c.fD)]; exact c.ext.fh b u z
  · rw [upd_ne (ne_of_none z c.nD)]; exact c.ext.hh b u z n
  · by_cases hb : b = D'
    · rw [hb, upd_same]; simp
    · rw [upd_ne hb]; exact c.ext.al b z
  · obtain ⟨g1, g2, g3, g4⟩ := c.fd φ q
    obtain ⟨av0, hD, hA⟩ := c.at_
    exact ⟨g1, g2, ⟨by rw [upd_ne (c.nf φ q).1]; exact g3.1, g3.2.upd hD (C.nt _ _ _ _ hA)⟩, g4⟩
/-- the first clause's store and tests, of item x -/
theorem gs_turn {σ : L2.St} {ρ : Env'} {x : D} {v : V} {as : Asg} {k : Bool} {b : D → Option Asg} {c : Env' → M Bool} {vs ns : List Nat} {R : L2.St → Bool → Hp → Prop} {s1 : FS} (G : GSt X fa C F1 H1 D' F H acc s) (en : EnvOk X.K fa F (L2.wipe σ vs) (wipeE ρ vs))
    (r : Rep X.K fa F x v) (hb : b x = some as) (hc : c (setE as ρ) s = .ok k s1) (hin : ∀ n ∈ ns, n ∈ vs) (hni : ∀ n ∈ vs, n ∈ ns)
    (q : ∀ σ2 F2 H2, GSt X fa C F1 H1 D' F2 H2 acc s1 → Same F F2 → EnvOk X.K fa F2 σ2 (setE as ρ) → L2.wipe σ2 vs = L2.wipe σ vs → R σ2 k H2) :
    gStar X ns b v (L2.wipe σ vs) H fun σ2 H2 => L2.wipe σ2 vs = L2.wipe σ vs ∧ tStarB X fa Wno c σ2 H2 (R σ2) := by
  refine ⟨fa, F, x, as, G.ext.fh, r, hb, fun ws hw hn => ?_⟩
  have hwv : L2.wipe (setV ws (L2.wipe σ vs)) vs = L2.wipe σ vs := by
    rw [wipe_setV vs ws _ fun p hp => hin _ (by rw [← hn, ← hw.ix]; exact List.mem_map_of_mem hp), wipe_wipe σ vs vs fun _ h => h]
  have en2 : EnvOk X.K fa F (setV ws (L2.wipe σ vs)) (setE as ρ) := by
    have z := en.setE hw
    rw [setE_wipe as ρ vs fun n h => by rw [hn]; exact hni n h] at z
    exact z
  refine ⟨hwv, F, setE as ρ, s, G.ext.fh, G.fd, en2, ?_⟩
  rw [hc]
  exact fun F' H' e fo => q _ F' H' (G.step e fo) e.ff (en2.mono e.ff) hwv
/-- .. with the block's names wiped -/
theorem gs_turnB {σ : L2.St} {ρw : Env'} {x : D} {v : V} {as : Asg} {k : Bool} {b : D → Option Asg} {c : Env' → M Bool} {vs ns : List Nat} {R : L2.St → Bool → Hp → Prop} {s1 : FS} (G : GSt X fa C F1 H1 D' F H acc s) (en : EnvOk X.K fa F (L2.wipe σ vs) ρw)
    (r : Rep X.K fa F x v) (hb : b x = some as) (hc : c (setE as ρw) s = .ok k s1) (hin : ∀ n ∈ ns, n ∈ vs)
    (q : ∀ σ2 F2 H2, GSt X fa C F1 H1 D' F2 H2 acc s1 → Same F F2 → EnvOk X.K fa F2 σ2 (setE as ρw) → L2.wipe σ2 vs = L2.wipe σ vs → R σ2 k H2) :
    gStar X ns b v (L2.wipe σ vs) H fun σ2 H2 => L2.wipe σ2 vs = L2.wipe σ vs ∧ tStarB X fa Wno c σ2 H2 (R σ2) := by
  refine ⟨fa, F, x, as, G.ext.fh, r, hb, fun ws hw hn => ?_⟩
  have hwv : L2.wipe (setV ws (L2.wipe σ vs)) vs = L2.wipe σ vs := by
    rw [wipe_setV vs ws _ fun p hp => hin _ (by rw [← hn, ← hw.ix]; exact List.mem_map_of_mem hp), wipe_wipe σ vs vs fun _ h => h]
  have en2 := en.setE hw
  refine ⟨hwv, F, setE as ρw, s, G.ext.fh, G.fd, en2, ?_⟩
  rw [hc]
  exact fun F' H' e fo => q _ F' H' (G.step e fo) e.ff (en2.mono e.ff) hwv
end

/-! ### two clauses -/
def tG2 (u0 : Addr → HO) (item : Addr → TE → L2.St → Hp → (Hp → Prop) → Prop) (wi : TI) (g : TG) (tt : TT) (wi1 : TI) (g1 : TG) (tt1 : TT) (te : TE) (vs vs1 : List Nat) : TE := fun σ H Q => wi σ H fun J H1 => ∀ D, H1 D = none → ∃ W : Nat → Nat → Hp → Prop, (∃ m, W 0 m (upd H1 D (u0 D))) ∧ ∀ i m H, W i m H →
  (J.stop i H ∧ Q (.ref D) H) ∨ (J.go i H ∧ ∃ Nx : Hp → Prop, (∀ H', Nx H' → ∃ m', m' < m ∧ W (i + 1) m' H') ∧ ∀ x H', J.yld i H x H' → g x (L2.wipe σ vs) H' fun σ2 H2 => L2.wipe σ2 vs = L2.wipe σ vs ∧ tt σ2 H2 fun b H3 =>
    if b = true then wi1 σ2 H3 fun J1 H4 => ∃ W1 : Nat → Nat → Hp → Prop, (∃ m, W1 0 m H4) ∧ ∀ j k H, W1 j k H →
      (J1.stop j H ∧ Nx H) ∨ (J1.go j H ∧ ∃ Nx1 : Hp → Prop, (∀ H', Nx1 H' → ∃ k', k' < k ∧ W1 (j + 1) k' H') ∧ ∀ x H', J1.yld j H x H' → g1 x (L2.wipe σ2 vs1) H' fun σ3 H5 => L2.wipe σ3 vs1 = L2.wipe σ2 vs1 ∧ tt1 σ3 H5 fun b H6 =>
        if b = true then item D te σ3 H6 Nx1 else Nx1 H6)
    else Nx H3)
section
variable {X : Cx} {fa : Option FA} {Wσ : L2.St → XK} {C : AccK X fa}
theorem len_pos {α : Type} {xs : List α} {i : Nat} {x : α} (h : xs[i]? = some x) : i < xs.length := (List.getElem?_eq_some_iff.mp h).1
/-- lists -/
def accL (X : Cx) (fa : Option FA) : AccK X fa where
  u0 := fun _ => .lst []
  item := fun a te σ H Nx => te σ H fun y H7 => ∃ acc, H7 a = some (.lst acc) ∧ acc.length < sizeLine ∧ Nx (upd H7 a (.lst (acc ++ [y])))
  At := fun F a acc u => ∃ av, u = .lst av ∧ RepL X.K fa F acc av
  lim := sizeLine
  okI := fun _ => true
  start := fun F a => ⟨[], rfl, .nil⟩
  mono := fun F F' a acc u e ⟨av, h, r⟩ => ⟨av, h, r.mono e⟩
  nt := fun F a acc u ⟨av, h, r⟩ => by rw [h]; exact noTab_lst _
  add := fun a F H σ ρ s s' f y acc Nx h1 h2 h3 hf ok hl k => by
    refine ⟨F, ρ, s, h1, h2, h3, ?_⟩
    rw [hf]
    intro v F' H' e o r
    obtain ⟨u, hu, ⟨av, rfl, rl⟩, q⟩ := k v F' H' e o r
    exact ⟨av, hu, by rw [← rl.length]; exact hl, q _ ⟨_, rfl, rl.append (.cons r .nil)⟩⟩
def isStrD : D → Bool
  | .str _ => true
  | _ => false
/-- sets of texts -/
def accS (X : Cx) (fa : Option FA) : AccK X fa where
  u0 := fun a => SGO (kkStr X.prog X.w) a (fun _ => false) 0
  item := fun a te σ H Nx => tAdd (kkStr X.prog X.w) a te σ H Nx
  At := fun F a acc u => ∃ (ks : List Str) (S : Str → Bool) (n : Nat), acc = ks.map D.str ∧ u = SGO (kkStr X.prog X.w) a S n ∧ n ≤ acc.length ∧ ∀ k, S k = true ↔ k ∈ ks
  lim := 4000
  okI := isStrD
  start := fun F a => ⟨[], _, 0, rfl, rfl, Nat.zero_le _, fun k => by simp⟩
  mono := fun F F' a acc u e h => h
  nt := fun F a acc u ⟨ks, S, n, _, h, _⟩ => by rw [h]; exact sg_noTab
  add := fun a F H σ ρ s s' f y acc Nx h1 h2 h3 hf ok hl k => by
    refine ⟨F, ρ, s, h1, h2, h3, ?_⟩
    rw [hf]
    intro v F' H' e o r
    obtain ⟨u, hu, ⟨ks, S, n, ea, rfl, hn, hm⟩, q⟩ := k v F' H' e o r
    cases y with
    | str x =>
      cases r
      have hb : scanBound = 4096 := rfl
      refine ⟨x, S, n, rfl, hu, by omega, q _ ⟨ks ++ [x], _, _, by rw [ea, List.map_append]; rfl, rfl, ?_, fun k => ?_⟩⟩
      · rw [List.length_append]
        show (if S x = true then n else n + 1) ≤ acc.length + 1
        split <;> omega
      · rw [Bool.or_eq_true, decide_eq_true_eq, List.mem_append, List.mem_singleton, hm k]
    | _ => cases ok
/-- a walk's loop, with its measure -/
theorem walk_loop {J : It} {n : Nat} {G : Hp → Prop} {Y : Nat → Hp → V → Hp → Prop} (w : Walk J n G Y) (Pv : Nat → Hp → Prop) (hG : ∀ i H, i ≤ n → Pv i H → G H) {H0 : Hp} (h0 : Pv 0 H0) {Stop : Hp → Prop} {Turn : Nat → Hp → V → Hp → (Hp → Prop) → Prop}
    (hs : ∀ i x H H', i < n → Pv i H → Y i H x H' → Turn i H x H' (Pv (i + 1))) (hd : ∀ H, Pv n H → Stop H) :
    ∃ W : Nat → Nat → Hp → Prop, (∃ m, W 0 m H0) ∧ ∀ i m H, W i m H → (J.stop i H ∧ Stop H) ∨ (J.go i H ∧ ∃ Nx : Hp → Prop, (∀ H', Nx H' → ∃ m', m' < m ∧ W (i + 1) m' H') ∧ ∀ x H', J.yld i H x H' → Turn i H x H' Nx) := by
  refine ⟨fun i m H => i ≤ n ∧ m = n - i ∧ Pv i H, ⟨n, Nat.zero_le _, rfl, h0⟩, ?_⟩
  rintro i m H ⟨hi, rfl, hp⟩
  by_cases h : i = n
  · subst h
    exact .inl ⟨w.stops _ (hG _ H hi hp), hd H hp⟩
  · have hlt : i < n := Nat.lt_of_le_of_ne hi h
    exact .inr ⟨w.goes i _ hlt (hG i H hi hp), Pv (i + 1), fun H' hp' => ⟨n - (i + 1), by omega, hlt, rfl, hp'⟩, fun x H' y => hs i x H H' hlt hp (w.yields i _ x H' hlt (hG i H hi hp) y)⟩
theorem fits_at {lim : Nat} {okI : D → Bool} {ys acc zs : List D} {y : D} (h : fitsL lim okI ys = true) (e : acc ++ y :: zs = ys) : okI y = true ∧ acc.length < lim := by
  unfold fitsL at h
  rw [Bool.and_eq_true, decide_eq_true_eq, List.all_eq_true] at h
  subst e
  refine ⟨h.2 y (by simp), ?_⟩
  have := h.1
  simp only [List.length_append, List.length_cons] at this
  omega
/-- the inner loop -/
theorem g2_in {F1 H1 : Hp} {D' : Addr} {b1 : D → Option Asg} {c1 : Env' → M Bool} {f : Env' → M D} {vs1 ns1 : List Nat} {σ2 : L2.St} {ρ2 : Env'} {J1 : It} {F0 H4 : Hp} {xs1 : List D} (wj : WJ X.K fa J1 F0 xs1) (hin : ∀ n ∈ ns1, n ∈ vs1) (hni : ∀ n ∈ vs1, n ∈ ns1)
    {ys zs us acc : List D} {s s2 : FS} (G : GSt X fa C F1 H1 D' F0 H4 acc s) (en : EnvOk X.K fa F0 σ2 ρ2) (hz : lcE b1 c1 f xs1 ρ2 s = .ok us s2) (hy : acc ++ us ++ zs = ys) (hf : fitsL C.lim C.okI ys = true) {Nx : Hp → Prop}
    (k : ∀ F H, GSt X fa C F1 H1 D' F H (acc ++ us) s2 → Same F0 F → Nx H) :
    ∃ W1 : Nat → Nat → Hp → Prop, (∃ m, W1 0 m H4) ∧ ∀ j k H, W1 j k H →
      (J1.stop j H ∧ Nx H) ∨ (J1.go j H ∧ ∃ Nx1 : Hp → Prop, (∀ H', Nx1 H' → ∃ k', k' < k ∧ W1 (j + 1) k' H') ∧ ∀ x H', J1.yld j H x H' → gStar X ns1 b1 x (L2.wipe σ2 vs1) H' fun σ3 H5 => L2.wipe σ3 vs1 = L2.wipe σ2 vs1 ∧ tStarB X fa Wno c1 σ3 H5 fun b H6 =>
        if b = true then C.item D' (tStar X fa Wno f) σ3 H6 Nx1 else Nx1 H6) := by
  obtain ⟨G0, Y, wk, hG, hY⟩ := wj.ex
  refine walk_loop wk (fun j H => ∃ F a s' ws, GSt X fa C F1 H1 D' F H a s' ∧ Same F0 F ∧ lcE b1 c1 f (xs1.drop j) ρ2 s' = .ok ws s2 ∧ a ++ ws = acc ++ us) ?_ ⟨F0, acc, s, us, G, Same.refl _, hz, rfl⟩
    (Turn := fun j H x H' Nx1 => gStar X ns1 b1 x (L2.wipe σ2 vs1) H' fun σ3 H5 => L2.wipe σ3 vs1 = L2.wipe σ2 vs1 ∧ tStarB X fa Wno c1 σ3 H5 fun b H6 => if b = true then C.item D' (tStar X fa Wno f) σ3 H6 Nx1 else Nx1 H6) ?_ ?_
  · rintro j H _ ⟨F, a, s', ws, G', e, _⟩
    exact hG F H e G'.ext.fh
  · rintro j x H H' hj ⟨F, a, s', ws, G', e0, hw, ha⟩ y
    have hx : xs1[j]? = some xs1[j] := List.getElem?_eq_getElem hj
    obtain ⟨F3, a1, a2, a3, a4, r⟩ := hY j _ F H x H' hx e0 G'.ext.fh y
    have G3 := G'.step (ext_same a1 a2 a3 a4) (G'.fd.ext_same a1 a3 a4)
    rw [List.drop_eq_getElem_cons hj] at hw
    change ((M.lift (b1 xs1[j]) s').bnd _) = _ at hw
    obtain ⟨as, s3, hb0, hw1⟩ := bnd_ok hw
    obtain ⟨hb, es1⟩ := lift_ok hb0
    rw [es1] at hw1
    change ((c1 (setE as ρ2) s').bnd _) = _ at hw1
    obtain ⟨kk, s4, hc, hw2⟩ := bnd_ok hw1
    refine gs_turn G3 ((en.mono (e0.trans a1)).wipe vs1) r hb hc hin hni fun σ3 F4 H5 G4 e34 en2 hwp => ?_
    cases kk with
    | false =>
      rw [if_neg Bool.false_ne_true] at hw2
      exact iteF ⟨F4, a, s4, ws, G4, e0.trans (a1.trans e34), hw2, ha⟩
    | true =>
      rw [if_pos rfl] at hw2
      change ((f (setE as ρ2) s4).bnd _) = _ at hw2
      obtain ⟨y', s5, hff, hw3⟩ := bnd_ok hw2
      change ((lcE b1 c1 f (xs1.drop (j + 1)) ρ2 s5).bnd _) = _ at hw3
      obtain ⟨ws', s6, hw4, hq⟩ := bnd_ok hw3
      cases hq
      have fa' := fits_at (acc := a) (y := y') (zs := ws' ++ zs) hf (by rw [← hy, ← ha]; simp)
      refine iteT (C.add D' F4 H5 σ3 (setE as ρ2) s4 s5 f y' a _ G4.ext.fh G4.fd en2 hff fa'.1 fa'.2 fun v F5 H6 e5 o5 r5 => ?_)
      have G5 := G4.step e5 o5
      obtain ⟨u, hu, hA⟩ := id G5.at_
      exact ⟨u, hu, hA, fun u' hA' => ⟨F5, a ++ [y'], s5, ws', G5.put hA', e0.trans (a1.trans (e34.trans e5.ff)), hw4, by rw [← ha]; simp⟩⟩
  · rintro H ⟨F, a, s', ws, G', e0, hw, ha⟩
    rw [List.drop_length] at hw
    cases hw
    rw [List.append_nil] at ha
    subst ha
    exact k F H G' e0
/-- two clauses: what is gathered at the end -/
theorem g2_run {wi : TI} {it it1 : Env' → M (List D)} {b b1 : D → Option Asg} {c c1 : Env' → M Bool} {f : Env' → M D} {vs ns vs1 ns1 : List Nat} (ki : IOk X fa Wσ wi it) (hin : ∀ n ∈ ns, n ∈ vs) (hin1 : ∀ n ∈ ns1, n ∈ vs1) (hni1 : ∀ n ∈ vs1, n ∈ ns1)
    {σ : L2.St} {F H : Hp} {ρ : Env'} {s : FS} {Q : VK} {β : Type} {Gd : Hp → Hp → Res β → Prop} {rest : List D → M β} (T : Tgt X fa (Wσ σ) Gd) (h1 : Same F H) (h2 : FeedOk X.K fa F H s) (h3 : EnvOk X.K fa F σ ρ)
    (hg : Gd F H ((dLc2 C.lim C.okI vs it b c it1 b1 c1 f ρ s).bnd rest))
    (k : ∀ ys s' F1 H1 D' F' H', Ext fa F H F1 H1 → H1 D' = none → GSt X fa C F1 H1 D' F' H' ys s' → Gd F H (rest ys s') → Q (.ref D') H') :
    tG2 C.u0 C.item wi (gStar X ns b) (tStarB X fa Wno c) (iStar X fa Wno it1) (gStar X ns1 b1) (tStarB X fa Wno c1) (tStar X fa Wno f) vs vs1 σ H Q := by
  refine ki σ F H ρ s _ h1 h2 h3 ?_
  change Gd F H (((it ρ s).bnd _).bnd _) at hg
  generalize it ρ s = r at hg
  cases r with
  | bad => exact absurd hg (T.bad F H)
  | err e s' => exact T.err F H e s' hg
  | ok xs s0 =>
    intro J F1 H1 e1 o1 wj D' hD
    change Gd F H (((M.quiet (lcE2 b c it1 b1 c1 f xs (wipeE ρ vs)) s0).bnd fun ys => if fitsL C.lim C.okI ys = true then M.pure ys else M.bad).bnd rest) at hg
    unfold M.quiet at hg
    cases hq : lcE2 b c it1 b1 c1 f xs (wipeE ρ vs) s0 with
    | bad => rw [hq] at hg; exact absurd hg (T.bad F H)
    | err e s' => rw [hq] at hg; exact absurd hg (T.bad F H)
    | ok ys s9 =>
      rw [hq] at hg
      change Gd F H (((if fitsL C.lim C.okI ys = true then M.pure ys else M.bad) s9).bnd rest) at hg
      by_cases hf : fitsL C.lim C.okI ys = true
      · rw [if_pos hf] at hg
        obtain ⟨G0, Y, wk, hG, hY⟩ := wj.ex
        have nf : Nfa fa D' := nfa_fresh o1 hD
        have fD : F1 D' = none := Same.free e1.fh hD
        have G00 : GSt X fa C F1 H1 D' F1 (upd H1 D' (C.u0 D')) [] s0 := ⟨(Ext.refl e1.fh).newH hD, o1.newH hD, fD, hD, nf, _, upd_same, C.start F1 D'⟩
        refine walk_loop wk (fun i H' => ∃ F' acc s' zs, GSt X fa C F1 H1 D' F' H' acc s' ∧ lcE2 b c it1 b1 c1 f (xs.drop i) (wipeE ρ vs) s' = .ok zs s9 ∧ acc ++ zs = ys) ?_ ⟨F1, [], s0, ys, G00, hq, rfl⟩
          (Turn := fun i H x H' Nx => gStar X ns b x (L2.wipe σ vs) H' fun σ2 H2 => L2.wipe σ2 vs = L2.wipe σ vs ∧ tStarB X fa Wno c σ2 H2 fun b H3 => if b = true then iStar X fa Wno it1 σ2 H3 fun J1 H4 => ∃ W1 : Nat → Nat → Hp → Prop, (∃ m, W1 0 m H4) ∧ ∀ j k H, W1 j k H →
            (J1.stop j H ∧ Nx H) ∨ (J1.go j H ∧ ∃ Nx1 : Hp → Prop, (∀ H', Nx1 H' → ∃ k', k' < k ∧ W1 (j + 1) k' H') ∧ ∀ x H', J1.yld j H x H' → gStar X ns1 b1 x (L2.wipe σ2 vs1) H' fun σ3 H5 => L2.wipe σ3 vs1 = L2.wipe σ2 vs1 ∧ tStarB X fa Wno c1 σ3 H5 fun b H6 =>
              if b = true then C.item D' (tStar X fa Wno f) σ3 H6 Nx1 else Nx1 H6) else Nx H3) ?_ ?_
        · rintro i H' _ ⟨F', acc, s', zs, G', _⟩
          exact hG F' H' G'.ext.ff G'.ext.fh
        · rintro i x H' H3 hi ⟨F', acc, s', zs, G', hz, ha⟩ y
          have hx : xs[i]? = some xs[i] := List.getElem?_eq_getElem hi
          obtain ⟨F3, a1, a2, a3, a4, r⟩ := hY i _ F' H' x H3 hx G'.ext.ff G'.ext.fh y
          have G3 := G'.step (ext_same a1 a2 a3 a4) (G'.fd.ext_same a1 a3 a4)
          rw [List.drop_eq_getElem_cons hi] at hz
          change ((M.lift (b xs[i]) s').bnd _) = _ at hz
          obtain ⟨as, s1, hb0, hz1⟩ := bnd_ok hz
          obtain ⟨hb, es1⟩ := lift_ok hb0
          rw [es1] at hz1
          change ((c (setE as (wipeE ρ vs)) s').bnd _) = _ at hz1
          obtain ⟨kk, s2, hc, hz2⟩ := bnd_ok hz1
          refine gs_turnB G3 ((h3.mono (e1.ff.trans (G'.ext.ff.trans a1))).wipe vs) r hb hc hin fun σ2 F4 H4 G4 e34 en2 hw => ?_
          cases kk with
          | false =>
            rw [if_neg Bool.false_ne_true] at hz2
            exact iteF ⟨F4, acc, s2, zs, G4, hz2, ha⟩
          | true =>
            rw [if_pos rfl] at hz2
            change ((it1 (setE as (wipeE ρ vs)) s2).bnd _) = _ at hz2
            obtain ⟨xs1, s3, hi1, hz3⟩ := bnd_ok hz2
            change ((lcE b1 c1 f xs1 (setE as (wipeE ρ vs)) s3).bnd _) = _ at hz3
            obtain ⟨us, s4, hl, hz4⟩ := bnd_ok hz3
            change ((lcE2 b c it1 b1 c1 f (xs.drop (i + 1)) (wipeE ρ vs) s4).bnd _) = _ at hz4
            obtain ⟨zs', s5, hz5, hqq⟩ := bnd_ok hz4
            cases hqq
            refine iteT ⟨F4, setE as (wipeE ρ vs), s2, G4.ext.fh, G4.fd, en2, ?_⟩
            rw [hi1]
            intro J1 F5 H5 e5 o5 wj1
            have G5 := G4.step e5 o5
            exact g2_in wj1 hin1 hni1 (zs := zs') G5 (en2.mono e5.ff) hl (by rw [← ha]; simp) hf fun F6 H6 G6 e6 => ⟨F6, acc ++ us, s4, zs', G6, hz5, by rw [← ha]; simp⟩
        · rintro H' ⟨F', acc, s', zs, G', hz, ha⟩
          rw [List.drop_length] at hz
          cases hz
          rw [List.append_nil] at ha
          subst ha
          exact k acc s9 F1 H1 D' F' H' e1 hD G' hg
      · rw [if_neg hf] at hg
        exact absurd hg (T.bad F H)
end
end DL

set_option Elab.async false
set_option linter.all false
set_option maxRecDepth 100000
set_option maxHeartbeats 4000000
/-! The data layer: rules of comprehensions with two clauses; sorted(set); sorted(tuple). -/
namespace DL
open PySem PySem.Spec PyProof.Rows L2 SG
section
variable {X : Cx} {fa : Option FA} {Wσ : L2.St → XK} {W : XK}
theorem none_of_ext {F H F1 H1 : Hp} {p : Addr} (e : Ext fa F H F1 H1) (h : H1 p = none) : H p = none := by
  cases z : H p with
  | none => rfl
  | some u => exact absurd h (e.al p (by rw [z]; simp))
theorem nok_lc2 {wi : TI} {it it1 : Env' → M (List D)} {b b1 : D → Option Asg} {c c1 : Env' → M Bool} {f : Env' → M D} {vs ns vs1 ns1 : List Nat} (ki : IOk X fa Wσ wi it) (hin : ∀ n ∈ ns, n ∈ vs) (hin1 : ∀ n ∈ ns1, n ∈ vs1) (hni1 : ∀ n ∈ vs1, n ∈ ns1) :
    NOk X fa Wσ (tLc2 wi (gStar X ns b) (tStarB X fa Wno c) (iStar X fa Wno it1) (gStar X ns1 b1) (tStarB X fa Wno c1) (tStar X fa Wno f) vs vs1) (dLc2 sizeLine (fun _ => true) vs it b c it1 b1 c1 f) := by
  intro σ F H ρ s Q h1 h2 h3 hg
  refine g2_run (C := accL X fa) (Gd := fun F H (r : Res (List D)) => GoodN X fa (Wσ σ) F H r Q) (rest := M.pure) ki hin hin1 hni1 GoodN.tgt h1 h2 h3 ?_ fun ys s' F1 H1 D' F' H' e1 hD G hg' => ?_
  · show GoodN X fa (Wσ σ) F H ((dLc2 sizeLine (fun _ => true) vs it b c it1 b1 c1 f ρ s).bnd M.pure) Q
    cases q : dLc2 sizeLine (fun _ => true) vs it b c it1 b1 c1 f ρ s <;> (rw [q] at hg; exact hg)
  · obtain ⟨u, hu, av, rfl, rl⟩ := G.at_
    exact hg' D' av F' H' (e1.trans G.ext) G.fd (none_of_ext e1 hD) G.fD hu rl
abbrev BlkD (X : Cx) (scope : Scope) (T : Cx → Prop) : Prop := ∀ (s : Shared) (H : Hp) (C : Addr) (cl : List (Str × Addr)) (fp : List Addr), T (X.blk s H scope (compEnvC scope cl C X.env) fp)
/-- [elt for tg in iter if .. for tg1 in iter1 if ..] -/
theorem nd_lc2 {tg iter elt tg1 iter1 : Expr} {ifs ifs1 : List Expr} {scope : Scope} {own : List (Str × Nat)} {pos : Pos} {it it1 : Env' → M (List D)} {b b1 : D → Option Asg} {c c1 : Env' → M Bool} {f : Env' → M D} {ns ns1 vs1 vs : List Nat} (hc : X.calm = true) (hN : X.N.Nodup) (hi : IJ X fa Wσ tg iter it) (ok : BlkOk X.N X.env.scope scope own)
    (hv : ∀ i ∈ vs1, i ∈ own.map (·.2)) (hin : ∀ n ∈ ns, n ∈ own.map (·.2)) (hin1 : ∀ n ∈ ns1, n ∈ vs1) (hni1 : ∀ n ∈ vs1, n ∈ ns1)
    (hg : BlkD X scope fun Y => TJ Y tg ns b) (ht : BlkD X scope fun Y => PTsD Y fa Wno ifs c) (hi1 : BlkD X scope fun Y => IJ Y fa Wno tg1 iter1 it1) (hg1 : BlkD X scope fun Y => TJ Y tg1 ns1 b1) (ht1 : BlkD X scope fun Y => PTsD Y fa Wno ifs1 c1) (he : BlkD X scope fun Y => ED Y fa Wno elt f)
    (hs : ∀ x, foldedSetIterable iter X.env x = pure x := by intro _; rfl) (hs1 : ∀ env x, foldedSetIterable iter1 env x = pure x := by intro _ _; rfl) (hvs : own.map (·.2) = vs := by rfl) :
    ND X fa Wσ (.ListComp elt [⟨tg, iter, ifs, 0⟩, ⟨tg1, iter1, ifs1, 0⟩] scope pos) (dLc2 sizeLine (fun _ => true) vs it b c it1 b1 c1 f) := by
  subst hvs
  obtain ⟨wi, pi, ki⟩ := hi
  exact ⟨_, pe_lc2 (wi1 := iStar X fa Wno it1) (tt := tStarB X fa Wno c) (tt1 := tStarB X fa Wno c1) (te := tStar X fa Wno f) (g := gStar X ns b) (g1 := gStar X ns1 b1) hc hN pi ok hv (fun s H C cl fp => (hg s H C cl fp).star) (fun s H C cl fp => (ht s H C cl fp).star) (fun s H C cl fp => (hi1 s H C cl fp).star)
    (fun s H C cl fp => (hg1 s H C cl fp).star) (fun s H C cl fp => (ht1 s H C cl fp).star) (fun s H C cl fp => (he s H C cl fp).star) hs hs1, nok_lc2 ki hin hin1 hni1⟩
/-- y = [.. for .. for ..] -/
theorem sj_setLc2 {tg iter elt tg1 iter1 : Expr} {ifs ifs1 : List Expr} {scope : Scope} {own : List (Str × Nat)} {pos spos py : Pos} {i : Nat} {y : Str} {it it1 : Env' → M (List D)} {b b1 : D → Option Asg} {c c1 : Env' → M Bool} {f : Env' → M D} {ns ns1 vs1 vs : List Nat} (hc : X.calm = true) (hN : X.N.Nodup) (hi : IJ X fa (fun _ => W) tg iter it) (ok : BlkOk X.N X.env.scope scope own)
    (hv : ∀ i ∈ vs1, i ∈ own.map (·.2)) (hin : ∀ n ∈ ns, n ∈ own.map (·.2)) (hin1 : ∀ n ∈ ns1, n ∈ vs1) (hni1 : ∀ n ∈ vs1, n ∈ ns1)
    (hg : BlkD X scope fun Y => TJ Y tg ns b) (ht : BlkD X scope fun Y => PTsD Y fa Wno ifs c) (hi1 : BlkD X scope fun Y => IJ Y fa Wno tg1 iter1 it1) (hg1 : BlkD X scope fun Y => TJ Y tg1 ns1 b1) (ht1 : BlkD X scope fun Y => PTsD Y fa Wno ifs1 c1) (he : BlkD X scope fun Y => ED Y fa Wno elt f)
    (hy : X.N[i]? = some y := by rfl) (hyl : X.env.scope.names.lookup y = some .local := by rfl) (hsw : swapsWith (.ListComp elt [⟨tg, iter, ifs, 0⟩, ⟨tg1, iter1, ifs1, 0⟩] scope pos) (some (.Name y py)) spos.line X.env = pure true := by exact sw_true rfl rfl rfl (by decide +kernel))
    (hs : ∀ x, foldedSetIterable iter X.env x = pure x := by intro _; rfl) (hs1 : ∀ env x, foldedSetIterable iter1 env x = pure x := by intro _ _; rfl) (hvs : own.map (·.2) = vs := by rfl) :
    SJ X fa W (.Assign [.Name y py] (.ListComp elt [⟨tg, iter, ifs, 0⟩, ⟨tg1, iter1, ifs1, 0⟩] scope pos) spos) (gSet i (vNew (dLc2 sizeLine (fun _ => true) vs it b c it1 b1 c1 f))) := by
  subst hvs
  obtain ⟨wi, pi, ki⟩ := hi
  exact sj_asg (ps_setLc2 (wi1 := iStar X fa Wno it1) (tt := tStarB X fa Wno c) (tt1 := tStarB X fa Wno c1) (te := tStar X fa Wno f) (g := gStar X ns b) (g1 := gStar X ns1 b1) hc hN hy hyl hsw pi ok hv (fun s H C cl fp => (hg s H C cl fp).star) (fun s H C cl fp => (ht s H C cl fp).star) (fun s H C cl fp => (hi1 s H C cl fp).star)
    (fun s H C cl fp => (hg1 s H C cl fp).star) (fun s H C cl fp => (ht1 s H C cl fp).star) (fun s H C cl fp => (he s H C cl fp).star) hs hs1) (vok_new (nok_lc2 ki hin hin1 hni1))

/-! ### sorted({..}) -/
def dd : List Str → List Str
  | [] => []
  | x :: r => if x ∈ r then dd r else x :: dd r
theorem dd_mem (x : Str) : ∀ l : List Str, x ∈ dd l ↔ x ∈ l
  | [] => Iff.rfl
  | y :: r => by
    unfold dd
    split
    · rename_i h
      rw [dd_mem x r, List.mem_cons]
      exact ⟨.inr, fun q => q.elim (fun e => e ▸ h) id⟩
    · rw [List.mem_cons, List.mem_cons, dd_mem x r]
theorem dd_nodup : ∀ l : List Str, (dd l).Nodup
  | [] => List.Pairwise.nil
  | y :: r => by
    unfold dd
    split
    · exact dd_nodup r
    · rename_i h
      exact List.nodup_cons.mpr ⟨fun q => h ((dd_mem y r).mp q), dd_nodup r⟩
/-- the members of a set of texts, ascending -/
def sortDd (ks : List Str) : List Str := sortS (dd ks)
theorem sortDd_eq {ks l : List Str} (h1 : l.Nodup) (h2 : ∀ k, k ∈ l ↔ k ∈ ks) (h3 : sortedS l = true) : l = sortDd ks := by
  refine sortS_eq ?_ h3
  refine (List.perm_ext_iff_of_nodup h1 (dd_nodup ks)).mpr fun k => ?_
  rw [h2, dd_mem]
def sortSetD (xs : List D) : Option D := (strsD xs).map fun ks => .lst ((sortDd ks).map .str)
theorem strsD_map (ks : List Str) : strsD (ks.map D.str) = some ks := by
  induction ks with
  | nil => rfl
  | cons k r ih => show (strsD (r.map D.str)).map _ = _; rw [ih]; rfl
def dSortSet2 (vs : List Nat) (it : Env' → M (List D)) (b : D → Option Asg) (c : Env' → M Bool) (it1 : Env' → M (List D)) (b1 : D → Option Asg) (c1 : Env' → M Bool) (f : Env' → M D) : Env' → M D := fun ρ => (dLc2 4000 isStrD vs it b c it1 b1 c1 f ρ).bind fun ys => M.lift (sortSetD ys)
theorem ed_sortSet2 {tg iter elt tg1 iter1 : Expr} {ifs ifs1 : List Expr} {scope : Scope} {own : List (Str × Nat)} {pos p cpos : Pos} {it it1 : Env' → M (List D)} {b b1 : D → Option Asg} {c c1 : Env' → M Bool} {f : Env' → M D} {ns ns1 vs1 vs : List Nat} (hm : X.mg "sorted" = none) (hc : X.calm = true) (hN : X.N.Nodup) (hi : IJ X fa Wσ tg iter it) (ok : BlkOk X.N X.env.scope scope own)
    (hv : ∀ i ∈ vs1, i ∈ own.map (·.2)) (hin : ∀ n ∈ ns, n ∈ own.map (·.2)) (hin1 : ∀ n ∈ ns1, n ∈ vs1) (hni1 : ∀ n ∈ vs1, n ∈ ns1)
    (hg : BlkD X scope fun Y => TJ Y tg ns b) (ht : BlkD X scope fun Y => PTsD Y fa Wno ifs c) (hi1 : BlkD X scope fun Y => IJ Y fa Wno tg1 iter1 it1) (hg1 : BlkD X scope fun Y => TJ Y tg1 ns1 b1) (ht1 : BlkD X scope fun Y => PTsD Y fa Wno ifs1 c1) (he : BlkD X scope fun Y => ED Y fa Wno elt f)
    (hs : ∀ x, foldedSetIterable iter X.env x = pure x := by intro _; rfl) (hs1 : ∀ env x, foldedSetIterable iter1 env x = pure x := by intro _ _; rfl) (hvs : own.map (·.2) = vs := by rfl) (hgl : Gl X "sorted" := by rfl)
    (hst : starEach [.SetComp elt [⟨tg, iter, ifs, 0⟩, ⟨tg1, iter1, ifs1, 0⟩] scope pos] X.env = [(false, eval (.SetComp elt [⟨tg, iter, ifs, 0⟩, ⟨tg1, iter1, ifs1, 0⟩] scope pos) X.env)] := by rfl) :
    ED X fa Wσ (.Call (.Name "sorted" p) [.SetComp elt [⟨tg, iter, ifs, 0⟩, ⟨tg1, iter1, ifs1, 0⟩] scope pos] [] cpos) (dSortSet2 vs it b c it1 b1 c1 f) := by
  subst hvs
  obtain ⟨wi, pi, ki⟩ := hi
  have pe := pe_set2 (kk := kkStr X.prog X.w) (wi1 := iStar X fa Wno it1) (tt := tStarB X fa Wno c) (tt1 := tStarB X fa Wno c1) (te := tStar X fa Wno f) (g := gStar X ns b) (g1 := gStar X ns1 b1) (pos := pos) hc hN pi ok hv (fun s H C cl fp => (hg s H C cl fp).star) (fun s H C cl fp => (ht s H C cl fp).star) (fun s H C cl fp => (hi1 s H C cl fp).star)
    (fun s H C cl fp => (hg1 s H C cl fp).star) (fun s H C cl fp => (ht1 s H C cl fp).star) (fun s H C cl fp => (he s H C cl fp).star) hs hs1
  refine ⟨_, pe_callB (cr_sortSetS hc) hgl hm (by decide +kernel) (pa_cons pe pa_nil hst), fun σ F H ρ s Q h1 h2 h3 h => ?_⟩
  change tSet2 (kkStr X.prog X.w) wi (gStar X ns b) (tStarB X fa Wno c) (iStar X fa Wno it1) (gStar X ns1 b1) (tStarB X fa Wno c1) (tStar X fa Wno f) (own.map (·.2)) vs1 σ H (fun x H' => rSortG (kkStr X.prog X.w) (fun l => sortedS l = true) [x] H' Q)
  show tG2 (accS X fa).u0 (accS X fa).item wi (gStar X ns b) (tStarB X fa Wno c) (iStar X fa Wno it1) (gStar X ns1 b1) (tStarB X fa Wno c1) (tStar X fa Wno f) (own.map (·.2)) vs1 σ H (fun x H' => rSortG (kkStr X.prog X.w) (fun l => sortedS l = true) [x] H' Q)
  refine g2_run (C := accS X fa) (Gd := fun F H (r : Res D) => Good X fa (Wσ σ) F H r Q) (rest := fun ys => M.lift (sortSetD ys)) ki hin hin1 hni1 Good.tgt h1 h2 h3 h fun ys s' F1 H1 D' F' H' e1 hD G hg' => ?_
  obtain ⟨u, hu, ks, S, n, rfl, rfl, hn, hmem⟩ := G.at_
  refine ⟨D', S, n, rfl, hu, fun l q hnd hl hsrt hq => ?_⟩
  have e : l = sortDd ks := sortDd_eq hnd (fun k => (hl k).trans (hmem k)) hsrt
  unfold sortSetD at hg'
  rw [strsD_map] at hg'
  subst e
  have hg2 := Good.tgt.of_ext (e1.trans G.ext) hg'
  exact Good.new G.ext.fh G.fd hq (.lst upd_same (repL_strs _)) hg2

/-! ### sorted(a tuple of ints) -/
theorem collect_tup {A : Around} {P : Program} {w : World} {E : Value → Shared → Prop} {s : Shared} {l : Addr} {vs : List Value} {Q : List Value → Shared → Prop} (hl : s.heap.IsTuple l vs.toArray)
    (h : Q vs { s with heap := (s.heap.push (seqObj "list" #[] 0)).update s.heap.objs.size (Obj.mapSeq (· ++ vs.toArray)) }) (hsz : vs.length ≤ sizeLine) : wpAny (model P w) A (collect (.ref l)) Q E s := by
  obtain ⟨o, ho, hc, n, hd⟩ := id hl
  unfold collect
  refine wpAny_bind (wpAny_runValue (codeAny_builtin entry_proto_collect' ?_))
  show wpAny _ _ (do again (.builtin "list.__iadd__" ⟨[← newList [], .ref l], []⟩)) _ _ s
  refine wpAny_bind (wpAny_newList (wpAny_pure ⟨Code.quiet_builtin _ (by decide +kernel), codeAny_builtin entry_list_iadd' ?_⟩))
  show wpAny _ _ (Builtin.List.listExtendWith (.ref s.heap.objs.size) (.ref l) (.ref s.heap.objs.size)) _ _ { s with heap := s.heap.push (seqObj "list" #[] 0) }
  unfold Builtin.List.listExtendWith
  have ho' : (s.heap.push (seqObj "list" #[] 0)).get? l = some o := Heap.get?_push_of_some _ ho
  have hnew : (s.heap.push (seqObj "list" #[] 0)).get? s.heap.objs.size = some (seqObj "list" #[] 0) := Heap.get?_push_size _ rfl
  refine wpAny_bind (wpAny_typeOf (T := "tuple") ⟨o, ho', hc⟩ ?_)
  have ht : (Value.type "tuple" == Value.type "tuple") = true := by rfl
  rw [if_pos (by rw [ht]; simp)]
  refine wpAny_bind (listItems_at ho' hd (wpAny_bind (listItems_at (xs := #[]) (n := 0) hnew rfl ?_)))
  rw [if_neg (by simp)]
  refine wpAny_bind (listUpdate_at (xs := #[]) (n := 0) hnew rfl ?_ (Nat.zero_le _) (by show (#[] ++ vs.toArray).size ≤ sizeLine + 1; simp only [Array.size_append, List.size_toArray, List.length_nil]; omega))
  refine wpAny_pure ?_
  show wpAny (model P w) A (do
      let o ← load s.heap.objs.size
      match o.data with
      | .seq xs _ => pure xs.toList
      | _ => unsupported "internal:collect") Q E { s with heap := (s.heap.push (seqObj "list" #[] 0)).update s.heap.objs.size (Obj.mapSeq (· ++ vs.toArray)) }
  refine wpAny_bind (wpAny_load (get?_update_seq hnew _) ?_)
  show wpAny _ _ (pure ((#[] : Array Value) ++ vs.toArray).toList) Q E _
  rw [show ((#[] : Array Value) ++ vs.toArray).toList = vs by simp]
  exact wpAny_pure h
theorem sorted_tupI {A : Around} {P : Program} {w : World} {E : Value → Shared → Prop} {s : Shared} {l : Addr} {vs : List Value} {ns : List Int} {Q : Value → Shared → Prop} (hl : s.heap.IsTuple l vs.toArray) (hI : IntsAre vs ns) (hL : vs.length ≤ sizeLine)
    (h : ∀ (out : Array Value) (ns' : List Int), IntsAre out.toList ns' → ns'.Perm ns → ns'.Pairwise (· ≤ ·) → Q (.ref (s.heap.objs.size + 1)) { s with heap := sortedAll s.heap vs out }) :
    wpAny (model P w) A (call (.builtin "sorted") [.ref l]) Q E s := by
  refine Calls.call_function_entry kind_sorted plain_sorted entry_sorted (args_sorted1 _) ?_
  unfold Builtin.«sorted»
  refine wpAny_bind (m := checkCount "sorted" 1 1 _) (wpAny_pure (wpAny_bind (collect_tup hl ?_ hL)))
  refine wpAny_bind (wpAny_newList ?_ hL)
  have hsz : ((s.heap.push (seqObj "list" #[] 0)).update s.heap.objs.size (Obj.mapSeq (· ++ vs.toArray))).objs.size = s.heap.objs.size + 1 := by
    rw [Heap.size_update, size_push']
  have hoL : (((s.heap.push (seqObj "list" #[] 0)).update s.heap.objs.size (Obj.mapSeq (· ++ vs.toArray))).push (seqObj "list" vs.toArray 0)).get? (s.heap.objs.size + 1) = some (seqObj "list" vs.toArray 0) := by
    rw [← hsz]; exact Heap.get?_push_size _ rfl
  show wpAny _ _ _ _ _ { s with heap := ((s.heap.push (seqObj "list" #[] 0)).update s.heap.objs.size (Obj.mapSeq (· ++ vs.toArray))).push (seqObj "list" vs.toArray 0) }
  rw [hsz]
  refine wpAny_bind (wpAny_holding (wpAny_call_entry slot_list_sort ⟨_, hoL, rfl⟩ entry_list_sort (list_sort_treeAny hoL hI hL fun out ns' a1 a2 a3 => ⟨_, rfl, wpAny_pure ⟨_, rfl, h out ns' a1 a2 a3⟩⟩) (args_list_sort _)))
end
section
variable {X : Cx} {fa : Option FA}
def rSortTI (K : PySem.W.Frag) : List V → Hp → VK → Prop := fun vs H Q => ∃ (a : Addr) (ns : List Int), vs = [V.ref a] ∧ SqT K H a (ns.map V.int) ∧ ns.length ≤ sizeLine ∧ ∀ (ys : List Int) (p : Addr), ys.Perm ns → ys.Pairwise (· ≤ ·) → H p = none → Q (.ref p) (upd H p (.lst (ys.map V.int)))
theorem cr_sortTI : CallR X (.builtin "sorted") (rSortTI X.K) := by
  intro pins s σ H vs us Q I r h
  obtain ⟨a, ns, rfl, hs, hl, q⟩ := h
  obtain ⟨its, rv, ht, hz⟩ := I.tuple hs
  rw [Vals.ref1 r]
  have hlen := rv.length
  rw [List.length_map] at hlen
  refine sorted_tupI ht rv.ints (by rw [← hlen]; exact hl) fun out ys h1 h2 h3 => ?_
  obtain ⟨ep, he'⟩ := PyProof.Rows.sortedAll_at s.heap its out
  refine ⟨.ref _, upd H (s.heap.objs.size + 1) (.lst (ys.map V.int)), I.laid (t' := s.toks) (fun _ _ => PyProof.Rows.sortedAll_old) (Nat.le_succ _) ⟨by rw [List.length_map, h2.length_eq]; exact hl, out.toList, ep, vals_of_ints h1, he'⟩, rfl, q ys _ h2 h3 (I.hok.fresh (Nat.le_succ _))⟩
def sortedTD : List D → Option D
  | [.tup xs] => if xs.length ≤ sizeLine then (intsD xs).map fun ns => .lst ((sortI ns).map .int) else none
  | _ => none
theorem ok_sortTI : CallOk X fa (rSortTI X.K) sortedTD := by
  intro F H s xs as Q h1 h2 r h
  cases r with
  | nil => exact h.elim
  | cons r t =>
    cases t with
    | cons _ _ => cases r <;> exact h.elim
    | nil =>
      cases r with
      | @tup a xs vs hq r =>
        by_cases hl : xs.length ≤ sizeLine
        · rw [show sortedTD [.tup xs] = (intsD xs).map fun ns => .lst ((sortI ns).map .int) from if_pos hl] at h
          cases q2 : intsD xs with
          | none => rw [q2] at h; exact h.elim
          | some ns =>
            rw [q2] at h
            have e := intsD_rep q2 r
            subst e
            refine ⟨a, ns, rfl, same_seqT h1 hq, by have := r.length; simp at this; omega, fun ys p hp hs hn => ?_⟩
            rw [sortI_eq hp hs]
            exact GoodO.new h1 h2 hn (.lst upd_same (RepL.ints _)) h
        · rw [show sortedTD [.tup xs] = none from if_neg hl] at h
          exact h.elim
      | _ => exact h.elim
end
end DL

set_option Elab.async false
set_option linter.all false
set_option maxRecDepth 100000
set_option maxHeartbeats 2000000
/-! The data layer: defs with *v, star calls, the module's tables, class constants, list(range), join. -/
namespace DL
open PySem PySem.Spec PyProof.Rows L2
/-! ### calls by position, however they are bound -/
structure CalP (P : Program) (w : World) (K : PySem.W.Frag) (mg : Str → Option Value) (base : Heap) (k : Nat) (x : Str) (g : List D → M D) : Prop where
  ex : ∃ f, FnR P w K mg base (L2.CX P w) k f (DSp K mg g) ∧ mg x = some (.ref f) ∧ PySem.W.keepIn K (.ref f) = true
/-- n parameters, the rest a tuple -/
def starD (n : Nat) (g : List D → M D) : List D → M D := fun ds => if n ≤ ds.length ∧ ds.length - n ≤ sizeLine then g (ds.take n ++ [.tup (ds.drop n)]) else M.bad
section
variable {P : Program} {w : World} {K : PySem.W.Frag} {mg : Str → Option Value} {base : Heap}
theorem CalP.mono {j k : Nat} {x : Str} {g : List D → M D} (C : CalP P w K mg base j x g) (h : j ≤ k) : CalP P w K mg base k x g := by
  obtain ⟨f, F, m, kp⟩ := C.ex
  exact ⟨f, F.mono h, m, kp⟩
theorem GoodK.ext {fa : Option FA} {W : XK} {F H F' H' : Hp} {r : Res D} {Q : VK} (e : Ext fa F H F' H') (h : GoodK K mg fa W F H r Q) : GoodK K mg fa W F' H' r Q := by
  cases r with
  | bad => exact h
  | ok d s => exact fun v F2 H2 e2 => h v F2 H2 (e.trans e2)
  | err x s => exact fun c dd F2 H2 e2 => h c dd F2 H2 (e.trans e2)
theorem star_sp {n : Nat} {g : List D → M D} {vs : List V} {H : Hp} {Q : VK} {E : XK} (h : DSp K mg (starD n g) vs H Q E) :
    ∃ ws rest, vs = ws ++ rest ∧ ws.length = n ∧ rest.length ≤ sizeLine ∧ ∀ p, H p = none → DSp K mg g (ws ++ [V.ref p]) (upd H p (.tup rest)) Q E := by
  obtain ⟨fa, F, s, ds, h1, h2, r, gd⟩ := h
  unfold starD at gd
  by_cases hl : n ≤ ds.length ∧ ds.length - n ≤ sizeLine
  · rw [if_pos hl] at gd
    have l := r.length
    refine ⟨vs.take n, vs.drop n, (List.take_append_drop n vs).symm, by rw [List.length_take]; omega, by rw [List.length_drop]; omega, fun p hp => ?_⟩
    have e : Ext fa F H (upd F p (.tup (vs.drop n))) (upd H p (.tup (vs.drop n))) := Ext.new h1 hp
    exact ⟨fa, _, s, ds.take n ++ [.tup (ds.drop n)], e.fh, h2.new h1 hp, ((r.take n).mono e.ff).append (.cons (.tup (SqT.of upd_same) ((r.drop n).mono e.ff)) .nil), GoodK.ext e gd⟩
  · rw [if_neg hl] at gd
    exact gd.elim
/-- def f(.., *v) -/
theorem fn_starD {x qual : Str} {st : Stmt} {f : Addr} {oc : Value} {od an : Option Addr} {osl : Array (Option Value)} {dV kV doc pm cdv ct : Value} {N ps : List Str} {pv : Str} {k : Nat} {body : Sts → M (Fl × Sts)}
    (lk : K.lookup f = some ⟨oc, od, .func (PySem.W.fnOf x qual (defArgs st) (defBody st) (defScope st) dV kV doc pm an cdv ct), osl⟩) (hcd : PySem.W.codeIn K cdv qual = true) (S : FnScope N (ps ++ [pv]) (defScope st)) (hN : (ps ++ [pv]).length ≤ N.length)
    (hb : ∀ us rest : List Value, us.length = ps.length → bindArgs (PySem.W.fnOf x qual (defArgs st) (defBody st) (defScope st) dV kV doc pm an cdv ct) ⟨us ++ rest, []⟩ = (newTuple rest >>= fun t => pure (ps.zip us ++ [(pv, t)])))
    (hbody : ∀ (cdv : Value) (A : Around) (outer : List Env) (s : Shared) (H : Hp) (E : XK) (fa : Option FA), Room k (A.deeper (envOfC qual (defScope st) s.heap.objs.size f cdv)) →
      SSJ (cxOf (L2.CX P w) P w K mg base N qual (defScope st) f cdv A outer s H E) fa E (defBody st) body) :
    FnR P w K mg base (L2.CX P w) (k + 1) f (DSp K mg (starD ps.length (runD N.length (ps ++ [pv]).length body))) := by
  refine FnR.imp (StX.fn_star (sp := DSp K mg (runD N.length (ps ++ [pv]).length body)) (k := k) (P := P) (w := w) (mg := mg) (base := base) lk hcd S StX.cxUp hb fun A outer s H vs Q E hr h => ?_) fun vs H Q E h => star_sp h
  · have hl := dsp_len h
    obtain ⟨fa, Fz, fs, ds, h1, h2, r, g⟩ := h
    obtain ⟨t, p, kk⟩ := hbody cdv A outer s H E fa hr
    refine ⟨t, p, ?_⟩
    unfold runD at g
    have e : ds.length = (ps ++ [pv]).length := by rw [r.length]; exact hl
    rw [if_pos e] at g
    have S0 := SOk.start (N := N) h1 h2 r (by omega)
    rw [e] at S0
    refine kk Fz Fz H Fz H _ _ _ fs _ S0 ?_
    change GoodK K mg fa E Fz H ((body (ds.map EV.d ++ List.replicate (N.length - (ps ++ [pv]).length) .no) fs).bnd _) Q at g
    generalize body (ds.map EV.d ++ List.replicate (N.length - (ps ++ [pv]).length) .no) fs = rr at g
    cases rr with
    | bad => exact g
    | err e s' => exact g
    | ok q s' =>
      obtain ⟨fl, ρ'⟩ := q
      cases fl with
      | nx => exact fun σ' F' H' A' S' => g .non F' H' S'.ext S'.fd .non
      | rt d => exact fun v F' H' ex fo rv _ => g v F' H' ex fo rv
      | bk => exact g.elim
      | ct => exact g.elim
end
section
variable {X : Cx} {fa : Option FA} {W : L2.St → XK} {a b c e o : Expr} {es rest : List Expr} {pos p sp_ apos cpos : Pos} {f1 f2 f3 : Env' → M D} {fl : Env' → M (List D)} {k : Nat} {t : TA} {te : TE}
theorem run_RS {pins : List (Addr × Obj)} {σ : L2.St} {H : Hp} {s : Shared} {f : Addr} {sp : Sp} {E : XK} {Q : VK} {us : List Value} {vs : List V} (F : FnR X.prog X.w X.K X.mg X.base (L2.CX X.prog X.w) k f sp) (hr : Room k X.A) (hx : PassesAt (L2.CX X.prog X.w) X σ E) (I : Inv X pins σ H s) (r : Vals vs us) (h : sp vs H Q E) :
    wpAny (model X.prog X.w) X.A (call (.ref f) us) (EP X pins σ Q) X.xe s := by
  refine wpAny_call (codeAny_mono (F X.A X.stack s H us vs Q E hr I.env0 r h) fun rr s' hq => ?_)
  cases rr with
  | error e => exact hx pins H s e s' I hq
  | ok fl =>
    cases fl with
    | ret u => exact I.after hq
    | next => exact False.elim hq
    | brk => exact False.elim hq
    | cont => exact False.elim hq
/-- f(e, ..) -/
theorem ed_calP {g : List D → M D} {x : Str} (C : CalP X.prog X.w X.K X.mg X.base k x g) (hr : Room k X.A) (hx : ∀ σ, PassesAt (L2.CX X.prog X.w) X σ (W σ)) (ha : LD X fa W (e :: es) fl) (hg : Gl X x := by rfl) (hdb : (x == ("__debug__" : Str)) = false := by decide)
    (he : starEach (e :: es) X.env = (false, eval e X.env) :: starEach es X.env := by rfl) (hpl : (backTo pos (starEach es X.env)).any (·.1) = false := by rfl) : ED X fa W (.Call (.Name x p) (e :: es) [] pos) (dCall g fl) := by
  obtain ⟨f, F, hm, hk⟩ := C.ex
  obtain ⟨ta, pa, ka⟩ := ha
  refine ⟨fun σ H Q => ta σ H fun vs H1 => DSp X.K X.mg g vs H1 Q (W σ), ⟨fun pins s σ H Q I h => ?_⟩, fun σ F H ρ s Q h1 h2 h3 h => ?_⟩
  · refine wpAny_Call_Name_kw (ld_glob I hg hm ?_ hdb)
    refine PySem.W.callWith_K (h₀ := X.base) I.ok.mod.kin hk (thn (pa.run pos pins s σ H _ I h) fun us s1 ⟨vs, H1, I1, r, q⟩ => ⟨I1.kIn, ?_⟩) he hpl
    exact run_RS F hr (hx σ) I1 r q
  · refine ka.then Good.tgt h1 h2 h3 h fun xs s1 vs F1 H1 e1 o1 r1 v1 h' => ?_
    exact ⟨fa, F1, s1, xs, e1.fh, o1, r1, h'⟩
/-- f(*e) -/
def dCallS (g : List D → M D) (f1 : Env' → M D) : Env' → M D := fun ρ => (f1 ρ).bind fun x => (M.lift (seqD x)).bind g
theorem ed_calS {g : List D → M D} {x : Str} (C : CalP X.prog X.w X.K X.mg X.base k x g) (hr : Room k X.A) (hx : ∀ σ, PassesAt (L2.CX X.prog X.w) X σ (W σ)) (ha : ED X fa W e f1) (hg : Gl X x := by rfl) (hdb : (x == ("__debug__" : Str)) = false := by decide)
    (hst : starEach [.Starred e sp_] X.env = [(true, eval e X.env)] := by rfl) : ED X fa W (.Call (.Name x p) [.Starred e sp_] [] pos) (dCallS g f1) := by
  obtain ⟨f, F, hm, hk⟩ := C.ex
  obtain ⟨ta, pa, ka⟩ := ha
  refine ⟨fun σ H Q => ta σ H fun y H1 => ∃ a xs, y = V.ref a ∧ (SqT X.K H1 a xs ∨ SqL X.K H1 a xs) ∧ DSp X.K X.mg g xs H1 Q (W σ), ⟨fun pins s σ H Q I h => ?_⟩, fun σ F H ρ s Q h1 h2 h3 h => ?_⟩
  · refine wpAny_Call_Name_kw (ld_glob I hg hm ?_ hdb)
    refine PySem.W.callWith_S (h₀ := X.base) I.ok.mod.kin hk (thn (pa.run pins s σ H _ I h) fun v s1 ⟨y, H1, I1, ry, a, xs, ey, hxs, q⟩ => ?_) hst
    subst ey
    obtain rfl : v = Value.ref a := ry
    exact StX.star_any I1 hxs fun us s2 I2 rv => ⟨I2.kIn, run_RS F hr (hx σ) I2 rv q⟩
  · refine ka.then Good.tgt h1 h2 h3 h fun x s1 v F1 H1 e1 o1 r1 v1 h' => ?_
    change Good X fa (W σ) F1 H1 (((M.lift (seqD x)).bind g) s1) Q at h'
    cases r1 with
    | tup hq rl => exact ⟨_, _, rfl, .inl (same_seqT e1.fh hq), fa, F1, s1, _, e1.fh, o1, rl, h'⟩
    | lst hq rl => exact ⟨_, _, rfl, .inr (SqL.of (e1.fh _ _ hq)), fa, F1, s1, _, e1.fh, o1, rl, h'⟩
    | _ => exact h'.elim

/-! ### the module's tuples -/
/-- the module's name x holds a tuple of such values -/
def TupC (K : PySem.W.Frag) (mg : Str → Option Value) (x : Str) (ds : List D) : Prop := ∃ a vs, mg x = some (.ref a) ∧ (∀ F, SqT K F a vs) ∧ ∀ fa F, RepL K fa F ds vs
theorem ed_tupC {x : Str} {ds : List D} (h : TupC X.K X.mg x ds) (hg : Gl X x := by rfl) (hd : (x == ("__debug__" : Str)) = false := by decide) : ED X fa W (.Name x pos) (dC (.tup ds)) := by
  obtain ⟨a, vs, hm, hs, hr⟩ := h
  exact ed_glob (.tup ds) (fun F => .tup (hs F) (hr fa F)) hm (v := .ref a) rfl hg hd
theorem tupC_mk {K : PySem.W.Frag} {h : Heap} {mg : Str → Option Value} {x : Str} {a : Addr} {dct : Option Addr} {its : Array Value} {n : Nat} {sl : Array (Option Value)} {vs : List V} {ds : List D} (X : K.In h) (G : h.Ns mainGlobals mg)
    (e : PySem.W.nsIn K mainGlobals x = some (some (.ref a))) (l : K.lookup a = some ⟨.type "tuple", dct, .seq its n, sl⟩) (rv : Vals vs its.toList) (hr : ∀ fa F, RepL K fa F ds vs) (hz : its.size ≤ 1000) : TupC K mg x ds :=
  ⟨a, vs, PySem.W.mg_of X G e, fun F => .inr ⟨_, its, n, l, rfl, rfl, by rw [sizeLine_eq]; omega, rv⟩, hr⟩

/-! ### the module's dicts with text keys -/
def entI (e : DictEntry) : Option (Str × Int) := match e.key, e.val with
  | .str k _, .int n _ => some (k, n)
  | _, _ => none
structure KTab (K : PySem.W.Frag) (w : World) (mg : Str → Option Value) (x : Str) (tab : List (Str × Int)) : Prop where
  ex : ∃ a es n, mg x = some (.ref a) ∧ KDict K w a es n ∧ es.toList.map entI = tab.map some
theorem ent_find (z : Str) : ∀ {es : List DictEntry} {tab : List (Str × Int)}, es.map entI = tab.map some → (match tab.lookup z with
    | some n => ∃ e t, es.find? (fun e => e.key.isStr z) = some e ∧ e.val = .int n t
    | none => es.find? (fun e => e.key.isStr z) = none) ∧ es.any (·.refKey) = false
  | [], [], _ => ⟨rfl, rfl⟩
  | [], _ :: _, h => by cases h
  | _ :: _, [], h => by cases h
  | e :: es, (k, n) :: tab, h => by
    rw [List.map_cons, List.map_cons] at h
    injection h with h1 h2
    obtain ⟨i1, i2⟩ := ent_find z h2
    unfold entI at h1
    split at h1
    · rename_i k' t' n' t'' ek ev
      cases h1
      refine ⟨?_, ?_⟩
      · rw [List.lookup_cons]
        have hk : e.key.isStr z = (z == k) := by
          rw [ek]
          show (k == z) = (z == k)
          exact BEq.comm
        by_cases hz : z = k
        · subst hz
          rw [beq_self_eq_true]
          refine ⟨e, t'', ?_, ev⟩
          rw [List.find?_cons, hk, beq_self_eq_true]
        · have hz' : (z == k) = false := by simpa using hz
          rw [hz']
          rw [List.find?_cons, hk, hz']
          exact i1
      · rw [List.any_cons, i2, Bool.or_false]
        show e.refKey = false
        unfold DictEntry.refKey
        rw [ek]
    · cases h1
theorem ktab_ns {K : PySem.W.Frag} {w : World} {a : Addr} {es : Array DictEntry} {n : Nat} {tab : List (Str × Int)} (D : KDict K w a es n) (h : es.toList.map entI = tab.map some) (z : Str) :
    match tab.lookup z with
    | some i => ∃ t, PySem.W.nsIn K a z = some (some (.int i t))
    | none => PySem.W.nsIn K a z = some none := by
  obtain ⟨i1, i2⟩ := ent_find z h
  unfold PySem.W.nsIn
  rw [D.at_]
  dsimp only
  cases q : tab.lookup z with
  | none =>
    rw [q] at i1
    rw [i1, i2]
    rfl
  | some i =>
    rw [q] at i1
    obtain ⟨e, t, e1, e2⟩ := i1
    exact ⟨t, by rw [e1]; show some (some e.val) = _; rw [e2]⟩
end
end DL

set_option Elab.async false
set_option linter.all false
set_option maxRecDepth 100000
set_option maxHeartbeats 2000000
/-! The data layer: dict comprehensions; tuples of what an owned thing tells; the module's tables asked; class constants; list(range); join; list * int. -/
namespace DL
open PySem PySem.Spec PyProof.Rows L2

/-! ### dict comprehensions -/
def dcE (b : D → Option Asg) (c : Env' → M Bool) (kf vf : Env' → M D) : List D → Env' → List (Key × D) → M (List (Key × D))
  | [], _, acc => M.pure acc
  | x :: xs, ρ, acc => (M.lift (b x)).bind fun as => (c (setE as ρ)).bind fun k => if k = true then (kf (setE as ρ)).bind fun kk => (vf (setE as ρ)).bind fun z => (M.lift (keyD kk)).bind fun k => if acc.length < sizeLine then dcE b c kf vf xs ρ (putD acc k z) else M.bad
    else dcE b c kf vf xs ρ acc
def dDc (it : Env' → M (List D)) (b : D → Option Asg) (c : Env' → M Bool) (kf vf : Env' → M D) : Env' → M (List (Key × D)) := fun ρ => (it ρ).bind fun xs => M.quiet (dcE b c kf vf xs ρ [])
def GoodDn (X : Cx) (fa : Option FA) (W : XK) (F H : Hp) (r : Res (List (Key × D))) (Q : VK) : Prop :=
  match r with
  | .bad => False
  | .ok xs s' => ∀ p vs F' H', Ext fa F H F' H' → FeedOk X.K fa F' H' s' → H p = none → F' p = none → H' p = some (.dK vs) → RepK X.K fa F' xs vs → Q (.ref p) H'
  | .err e s' => ∀ cls dd F' H', Ext fa F H F' H' → FeedOk X.K fa F' H' s' → RepX X.K X.mg fa F' H' e cls dd → W cls dd H'
def DNOk (X : Cx) (fa : Option FA) (W : L2.St → XK) (t : TE) (f : Env' → M (List (Key × D))) : Prop :=
  ∀ (σ : L2.St) (F H : Hp) (ρ : Env') (s : FS) (Q : VK), Same F H → FeedOk X.K fa F H s → EnvOk X.K fa F σ ρ → GoodDn X fa (W σ) F H (f ρ s) Q → t σ H Q
/-- the state of its loop -/
structure DSt (X : Cx) (fa : Option FA) (F1 H1 : Hp) (D' : Addr) (F H : Hp) (acc : List (Key × D)) (s : FS) : Prop where
  ext : Ext fa F1 H1 F H
  fd : FeedOk X.K fa F H s
  fD : F D' = none
  nD : H1 D' = none
  nf : Nfa fa D'
  at_ : ∃ av, H D' = some (.dK av) ∧ RepK X.K fa F acc av
section
variable {X : Cx} {fa : Option FA} {Wσ : L2.St → XK} {W : XK} {F1 H1 F H F' H' : Hp} {D' : Addr} {acc : List (Key × D)} {s s' : FS}
theorem DSt.step (c : DSt X fa F1 H1 D' F H acc s) (e : Ext fa F H F' H') (fo : FeedOk X.K fa F' H' s') : DSt X fa F1 H1 D' F' H' acc s' := by
  obtain ⟨av, h, r⟩ := c.at_
  exact ⟨c.ext.trans e, fo, (e.fr D' (by rw [h]; simp)).trans c.fD, c.nD, c.nf, av, e.hh _ _ h c.nf, r.mono e.ff⟩
theorem DSt.put (c : DSt X fa F1 H1 D' F H acc s) {ys : List (Key × D)} {av : List (Key × V)} (r : RepK X.K fa F ys av) : DSt X fa F1 H1 D' F (upd H D' (.dK av)) ys s := by
  refine ⟨⟨c.ext.ff, fun b u z => ?_, fun b u z n => ?_, c.ext.fr, fun b z => ?_⟩, fun φ q => ?_, c.fD, c.nD, c.nf, _, upd_same, r⟩
  · rw [upd_ne (ne_of_none z c.fD)]; exact c.ext.fh b u z
  · rw [upd_ne (ne_of_none z c.nD)]; exact c.ext.hh b u z n
  · by_cases hb : b = D'
    · rw [hb, upd_same]; simp
    · rw [upd_ne hb]; exact c.ext.al b z
  · obtain ⟨g1, g2, g3, g4⟩ := c.fd φ q
    obtain ⟨av0, hD, _⟩ := c.at_
    exact ⟨g1, g2, ⟨by rw [upd_ne (c.nf φ q).1]; exact g3.1, g3.2.upd hD ⟨fun ps z => (by cases z), fun c q z => by unfold LamX.CodeO at z; cases z⟩⟩, g4⟩
theorem dn_run {it : Env' → M (List D)} {b : D → Option Asg} {c : Env' → M Bool} {kf vf : Env' → M D} {wi : TI} {vs ns : List Nat} (ki : IOk X fa Wσ wi it) (hin : ∀ n ∈ ns, n ∈ vs) (hni : ∀ n ∈ vs, n ∈ ns) :
    DNOk X fa Wσ (tDc wi (gStar X ns b) (tStarB X fa Wno c) (tStar X fa Wno kf) (tStar X fa Wno vf) vs) (dDc it b c kf vf) := by
  intro σ F H ρ s Q h1 h2 h3 hg
  refine ki σ F H ρ s _ h1 h2 h3 ?_
  change GoodDn X fa (Wσ σ) F H ((it ρ s).bnd _) Q at hg
  generalize it ρ s = r at hg
  cases r with
  | bad => exact hg
  | err e s' => exact hg
  | ok xs s0 =>
    intro J F1 H1 e1 o1 wj D' hD
    change GoodDn X fa (Wσ σ) F H (M.quiet (dcE b c kf vf xs ρ []) s0) Q at hg
    obtain ⟨ys, s9, hys, hg⟩ := quiet_ok (P := fun r => GoodDn X fa (Wσ σ) F H r Q) (fun z => z) hg
    obtain ⟨G0, Y, wk, hG, hY⟩ := wj.ex
    have nf : Nfa fa D' := nfa_fresh o1 hD
    have fD : F1 D' = none := Same.free e1.fh hD
    have C0 : DSt X fa F1 H1 D' F1 (upd H1 D' (.dK [])) [] s0 := ⟨(Ext.refl e1.fh).newH hD, o1.newH hD, fD, hD, nf, [], upd_same, .nil⟩
    refine walk_loop wk (fun i H' => ∃ F' acc s', DSt X fa F1 H1 D' F' H' acc s' ∧ dcE b c kf vf (xs.drop i) ρ acc s' = .ok ys s9) ?_ ⟨F1, [], s0, C0, hys⟩
      (Turn := fun i H x H' Nx => gStar X ns b x (L2.wipe σ vs) H' fun σ2 H2 => L2.wipe σ2 vs = L2.wipe σ vs ∧ tStarB X fa Wno c σ2 H2 fun b H3 =>
        if b = true then tStar X fa Wno kf σ2 H3 fun y H4 => tStar X fa Wno vf σ2 H4 fun z H5 => ∃ kvs k, y = kV k ∧ H5 D' = some (.dK kvs) ∧ kvs.length < sizeLine ∧ Nx (upd H5 D' (.dK (putK kvs k z))) else Nx H3) ?_ ?_
    · rintro i H' _ ⟨F', acc, s', C, _⟩
      exact hG F' H' C.ext.ff C.ext.fh
    · rintro i x H' H3 hi ⟨F', acc, s', C, hz⟩ y
      have hx : xs[i]? = some xs[i] := List.getElem?_eq_getElem hi
      obtain ⟨F3, a1, a2, a3, a4, r⟩ := hY i _ F' H' x H3 hx C.ext.ff C.ext.fh y
      have C3 := C.step (ext_same a1 a2 a3 a4) (C.fd.ext_same a1 a3 a4)
      rw [List.drop_eq_getElem_cons hi] at hz
      change ((M.lift (b xs[i]) s').bnd _) = _ at hz
      obtain ⟨as, s1, hb0, hz1⟩ := bnd_ok hz
      obtain ⟨hb, es1⟩ := lift_ok hb0
      rw [es1] at hz1
      change ((c (setE as ρ) s').bnd _) = _ at hz1
      obtain ⟨k, s2, hc, hz2⟩ := bnd_ok hz1
      have en := (h3.mono (e1.ff.trans (C.ext.ff.trans a1))).wipe vs
      refine ⟨fa, F3, xs[i], as, C3.ext.fh, r, hb, fun ws hw hn => ?_⟩
      have hwv : L2.wipe (setV ws (L2.wipe σ vs)) vs = L2.wipe σ vs := by
        rw [wipe_setV vs ws _ fun p hp => hin _ (by rw [← hn, ← hw.ix]; exact List.mem_map_of_mem hp), wipe_wipe σ vs vs fun _ h => h]
      have en2 : EnvOk X.K fa F3 (setV ws (L2.wipe σ vs)) (setE as ρ) := by
        have z := en.setE hw
        rw [setE_wipe as ρ vs fun n h => by rw [hn]; exact hni n h] at z
        exact z
      refine ⟨hwv, F3, setE as ρ, s', C3.ext.fh, C3.fd, en2, ?_⟩
      rw [hc]
      intro F4 H4 e4 o4
      have C4 := C3.step e4 o4
      cases k with
      | false =>
        rw [if_neg Bool.false_ne_true] at hz2
        exact iteF ⟨F4, acc, s2, C4, hz2⟩
      | true =>
        rw [if_pos rfl] at hz2
        change ((kf (setE as ρ) s2).bnd _) = _ at hz2
        obtain ⟨kk, s3, hkf, hz3⟩ := bnd_ok hz2
        change ((vf (setE as ρ) s3).bnd _) = _ at hz3
        obtain ⟨z, s4, hvf, hz4⟩ := bnd_ok hz3
        change ((M.lift (keyD kk) s4).bnd _) = _ at hz4
        obtain ⟨key, s5, hk0, hz5⟩ := bnd_ok hz4
        obtain ⟨hkey, es5⟩ := lift_ok hk0
        rw [es5] at hz5
        change ((if acc.length < sizeLine then dcE b c kf vf (xs.drop (i + 1)) ρ (putD acc key z) else M.bad) s4) = _ at hz5
        refine iteT ⟨F4, setE as ρ, s2, C4.ext.fh, C4.fd, en2.mono e4.ff, ?_⟩
        rw [hkf]
        intro wk' F5 H5 e5 o5 r5
        have C5 := C4.step e5 o5
        refine ⟨F5, setE as ρ, s3, C5.ext.fh, C5.fd, en2.mono (e4.ff.trans e5.ff), ?_⟩
        rw [hvf]
        intro wv F6 H6 e6 o6 r6
        have C6 := C5.step e6 o6
        obtain ⟨av, hD6, rl⟩ := id C6.at_
        by_cases hlen : acc.length < sizeLine
        · rw [if_pos hlen] at hz5
          refine ⟨av, key, key_rep hkey (r5.mono e6.ff), hD6, by rw [← rl.length]; exact hlen, F6, putD acc key z, s4, C6.put (putK_eq key r6 rl), hz5⟩
        · rw [if_neg hlen] at hz5
          cases hz5
    · rintro H' ⟨F', acc, s', C, hz⟩
      rw [List.drop_length] at hz
      cases hz
      obtain ⟨av, hD', rl⟩ := C.at_
      exact hg D' av F' H' (e1.trans C.ext) C.fd (none_of_ext e1 hD) C.fD hD' rl
/-- at a statement: owned -/
def vNewDc (f : Env' → M (List (Key × D))) : Sts → M (EV × Sts) := fun ρ => (f (mask ρ)).bind fun xs => M.pure (.od xs, ρ)
theorem vok_newDc {t : TE} {f : Env' → M (List (Key × D))} (h : DNOk X fa (fun _ => W) t f) : VOk X fa W t (vNewDc f) := by
  intro B F0 H0 F H A σ vs ρ evs s Q hl S hg
  refine h σ F H (mask ρ) s Q S.ext.fh S.fd (S.mask hl) ?_
  change GoodV X fa W B F0 H0 σ vs evs ((f (mask ρ) s).bnd _) Q at hg
  generalize f (mask ρ) s = r at hg
  cases r with
  | bad => exact hg
  | err e s' => exact fun cls dd F' H' e fo rx => hg cls dd F' H' (S.ext.trans e) fo rx
  | ok xs s' =>
    intro p vs' F' H' e fo hp fp hq r
    have S1 := S.step e fo
    have h0 : H0 p = none := by
      cases z : H0 p with
      | none => rfl
      | some u => exact absurd hp (S.ext.al p (by rw [z]; simp))
    refine hg (.ref p) F' H' _ (S1.pushO (ev := .od xs) (p := p) (fun i ev' hi ho q => ?_) ⟨rfl, fp, h0, nfa_fresh S.fd hp, vs', hq, r⟩)
    exact ((S.slot i ev' hi).own_at ho).2.2.2.2 (q ▸ hp)
/-- frozen at once -/
theorem DNOk.tok {t : TE} {f : Env' → M (List (Key × D))} (h : DNOk X fa Wσ t f) : TOk X fa Wσ t (fun ρ => (f ρ).bind fun xs => M.pure (.dic xs)) := by
  intro σ F H ρ s Q h1 h2 h3 hg
  refine h σ F H ρ s Q h1 h2 h3 ?_
  change Good X fa (Wσ σ) F H ((f ρ s).bnd _) Q at hg
  generalize f ρ s = r at hg
  cases r with
  | bad => exact hg
  | err e s' => exact hg
  | ok xs s' =>
    intro p vs F' H' e fo hp fp hq r
    have ff : Same F' (upd F' p (.dK vs)) := fun b u q => by
      rw [upd_ne (ne_of_none q fp)]; exact q
    refine hg (.ref p) (upd F' p (.dK vs)) H' ⟨e.ff.trans ff, fun b u q => ?_, e.hh, fun b q => ?_, e.al⟩ (fun φ q => ?_) (.dic (.inl upd_same) (r.mono ff))
    · by_cases hb : b = p
      · subst hb; rw [upd_same] at q; rw [hq]; exact q
      · rw [upd_ne hb] at q; exact e.fh b u q
    · have : b ≠ p := fun z => q (z ▸ hp)
      rw [upd_ne this]; exact e.fr b q
    · obtain ⟨g1, g2, g3, g4⟩ := fo φ q
      refine ⟨?_, g2, ⟨g3.1, fun q2 hq2 => ?_, g3.2.2⟩, ff _ _ g4⟩
      · by_cases hb : φ.a = p
        · have g31 := g3.1
          rw [hb, hq] at g31; cases g31
        · rw [upd_ne hb]; exact g1
      · obtain ⟨ps, e2⟩ := g3.2.at_ hq2
        have n : q2.1 ≠ p := fun z => by rw [z, hq] at e2; cases e2
        rw [upd_ne n]
        exact g3.2.1 q2 hq2
section
variable {kx vx tg iter : Expr} {ifs : List Expr} {scope : Scope} {own : List (Str × Nat)} {pos spos py : Pos} {i : Nat} {y : Str} {it : Env' → M (List D)} {b : D → Option Asg} {c : Env' → M Bool} {kf vf : Env' → M D} {ns : List Nat}
theorem ed_dc (hc : X.calm = true) (hN : X.N.Nodup) (hi : IJ X fa Wσ tg iter it) (ok : BlkOk X.N X.env.scope scope own) (hin : ∀ n ∈ ns, n ∈ own.map (·.2)) (hni : ∀ n ∈ own.map (·.2), n ∈ ns)
    (hg : BlkD X scope fun Y => TJ Y tg ns b) (ht : BlkD X scope fun Y => PTsD Y fa Wno ifs c) (hk : BlkD X scope fun Y => ED Y fa Wno kx kf) (hv : BlkD X scope fun Y => ED Y fa Wno vx vf) (hs : ∀ x, foldedSetIterable iter X.env x = pure x := by intro _; rfl) :
    ED X fa Wσ (.DictComp kx vx [⟨tg, iter, ifs, 0⟩] scope pos) (fun ρ => (dDc it b c kf vf ρ).bind fun xs => M.pure (.dic xs)) := by
  obtain ⟨wi, pi, ki⟩ := hi
  exact ⟨_, pe_dc hc hN pi ok (fun s H C cl fp => (hg s H C cl fp).star) (tt := tStarB X fa Wno c) (fun s H C cl fp => (ht s H C cl fp).star) (fun s H C cl fp => (hk s H C cl fp).star) (fun s H C cl fp => (hv s H C cl fp).star) hs, (dn_run ki hin hni).tok⟩
theorem sw_dict {kx vx : Expr} {gs : List Comprehension} {l : Nat} {env : Env} (hk : env.scope.kind = .function) (hy : env.scope.names.lookup y = some .local) (hl : (py.line == pos.line) = true)
    (ha : (scope.names.any fun (n, k) => n == y && (k == .local || k == .cell)) = false) : swapsWith (.DictComp kx vx gs scope pos) (some (.Name y py)) l env = pure true := by
  have k1 : env.kindOf y = some .local := hy
  have k2 : env.blockKind = .function := by
    unfold Env.blockKind
    rw [hk]
    rfl
  unfold swapsWith
  simp only [k2, k1, ha, Expr.pos, hl]
  rfl
/-- x = {k: v for ..} -/
theorem sj_setDc (hc : X.calm = true) (hN : X.N.Nodup) (hi : IJ X fa (fun _ => W) tg iter it) (ok : BlkOk X.N X.env.scope scope own) (hin : ∀ n ∈ ns, n ∈ own.map (·.2)) (hni : ∀ n ∈ own.map (·.2), n ∈ ns)
    (hg : BlkD X scope fun Y => TJ Y tg ns b) (ht : BlkD X scope fun Y => PTsD Y fa Wno ifs c) (hk : BlkD X scope fun Y => ED Y fa Wno kx kf) (hv : BlkD X scope fun Y => ED Y fa Wno vx vf)
    (hy : X.N[i]? = some y := by rfl) (hyl : X.env.scope.names.lookup y = some .local := by rfl) (hsw : swapsWith (.DictComp kx vx [⟨tg, iter, ifs, 0⟩] scope pos) (some (.Name y py)) spos.line X.env = pure true := by exact sw_dict rfl rfl rfl (by decide +kernel)) (hs : ∀ x, foldedSetIterable iter X.env x = pure x := by intro _; rfl) :
    SJ X fa W (.Assign [.Name y py] (.DictComp kx vx [⟨tg, iter, ifs, 0⟩] scope pos) spos) (gSet i (vNewDc (dDc it b c kf vf))) := by
  obtain ⟨wi, pi, ki⟩ := hi
  refine sj_asg (te := tDc wi (gStar X ns b) (tStarB X fa Wno c) (tStar X fa Wno kf) (tStar X fa Wno vf) (own.map (·.2))) ⟨fun pins s σ H D I h => ?_⟩ (vok_newDc (dn_run ki hin hni))
  rw [exec_Assign_Name_used _ _ _ _ hsw]
  refine wpAny_bind (wpAny_standAt (wpAny_bind ?_))
  show wpAny _ X.A (do let _ ← comprehension (.DictComp kx vx [⟨tg, iter, ifs, 0⟩] scope pos) scope X.env (firstIterPos [⟨tg, iter, ifs, 0⟩] pos) newDict false (eval iter X.env) (some (assign (.Name y py) X.env))) _ _ s
  refine wpAny_bind (thn (dc_core (Qf := fun _ s' => SP X pins D .next s') (Q := fun x H1 => gName i x σ H1 D.nx) hc hN I pi ok (fun s H C cl fp => (hg s H C cl fp).star) (fun s H C cl fp => (ht s H C cl fp).star) (fun s H C cl fp => (hk s H C cl fp).star) (fun s H C cl fp => (hv s H C cl fp).star) hs h fun L C s' m H' I' q hn f => ?_) fun _ s' hq => wpAny_pure (wpAny_pure hq))
  show wpAny _ _ (assign (.Name y py) X.env (.ref L)) _ _ _
  refine wpAny_assign_Name (store_ok2 (v := V.ref L) I' hN hy (.inl hyl) rfl (fun s2 I2 hsb => ?_) (.inr hyl))
  obtain ⟨a, sb, ha⟩ := hsb
  obtain ⟨f0, f1, f2, f3, f4, f5⟩ := f
  have haC : C ≠ a := by
    rcases ha with z | z
    · rw [z]; exact f1
    · exact fun e => f4 y a z e.symm
  exact ⟨m, hn.sameBut sb haC, fun h3 sb3 => ⟨_, H', I2.turned (t' := s2.toks) (fun b o hb e => (sb3.2 b hb).trans e) f0 f1 f3 f4 f5, q⟩⟩
end

/-! ### tuples of what an owned thing tells -/
mutual
/-- built of plain values and tuples alone -/
def tupsB : D → Bool
  | .non => true
  | .bl _ => true
  | .int _ => true
  | .str _ => true
  | .tup xs => tupsL xs
  | _ => false
def tupsL : List D → Bool
  | [] => true
  | x :: xs => tupsB x && tupsL xs
end
mutual
theorem tups_rep {K : PySem.W.Frag} {F F' : Hp} (e : ∀ a xs, SqT K F a xs → SqT K F' a xs) : ∀ {d : D} {v : V}, Rep K fa F d v → tupsB d = true → Rep K fa F' d v
  | _, _, .non, _ => .non
  | _, _, .bl b, _ => .bl b
  | _, _, .int i, _ => .int i
  | _, _, .str x, _ => .str x
  | _, _, .tup h r, q => .tup (e _ _ h) (tups_repL e r q)
  | _, _, .feed _ _, q => by cases q
  | _, _, .opq _, q => by cases q
  | _, _, .scr _, q => by cases q
  | _, _, .lst _ _, q => by cases q
  | _, _, .dic _ _, q => by cases q
  | _, _, .ins _ _ _, q => by cases q
  | _, _, .ptup _ _ _, q => by cases q
theorem tups_repL {K : PySem.W.Frag} {F F' : Hp} (e : ∀ a xs, SqT K F a xs → SqT K F' a xs) : ∀ {ds : List D} {vs : List V}, RepL K fa F ds vs → tupsL ds = true → RepL K fa F' ds vs
  | _, _, .nil, _ => .nil
  | _, _, .cons (d := d) (ds := ds) r t, q => by
    have q' : (tupsB d && tupsL ds) = true := q
    rw [Bool.and_eq_true] at q'
    exact .cons (tups_rep e r q'.1) (tups_repL e t q'.2)
end
def vViewT (f : Env' → M D) : Sts → M (EV × Sts) := fun ρ => (f (view ρ)).bind fun x => if tupsB x = true then M.pure (.d x, ρ) else M.bad
open Classical in
theorem vok_viewT {t : TE} {f : Env' → M D} (h : TOk X fa (fun _ => W) t f) : VOk X fa W t (vViewT f) := by
  intro B F0 H0 F H A σ vs ρ evs s Q hl S hg
  obtain ⟨ff, fh, fo0, ex0⟩ := S.fp
  refine h σ (Fp F H A (ρ ++ evs)) H (view ρ) s Q fh fo0 (S.view hl) ?_
  change GoodV X fa W B F0 H0 σ vs evs ((f (view ρ) s).bnd _) Q at hg
  generalize f (view ρ) s = r at hg
  cases r with
  | bad => exact hg
  | err e s' => exact fun cls dd F' H' e fo rx => hg cls dd F' H' (ex0.trans e) fo rx
  | ok x s' =>
    intro v F' H' e fo r
    change GoodV X fa W B F0 H0 σ vs evs ((if tupsB x = true then M.pure (EV.d x, ρ) else M.bad) s') Q at hg
    by_cases q : tupsB x = true
    · rw [if_pos q] at hg
      -- what is new and not owned
      have e2 : Ext fa F H (fun b => if H b = none then F' b else F b) H' := by
        refine ⟨fun b u z => ?_, fun b u z => ?_, e.hh, fun b z => ?_, e.al⟩
        · have : H b ≠ none := by rw [S.ext.fh b u z]; simp
          show (if H b = none then F' b else F b) = some u
          rw [if_neg this]; exact z
        · by_cases hb : H b = none
          · have z1 : (if H b = none then F' b else F b) = some u := z
            rw [if_pos hb] at z1
            exact e.fh b u z1
          · have z' : (if H b = none then F' b else F b) = some u := z
            rw [if_neg hb] at z'
            exact e.fh b u (e.ff b u (ff b u z'))
        · show (if H b = none then F' b else F b) = F b
          rw [if_neg z]
      have fo2 : FeedOk X.K fa (fun b => if H b = none then F' b else F b) H' s' := fun φ z => by
        obtain ⟨h1, h2, h3, h4⟩ := S.fd φ z
        obtain ⟨g1, g2, g3, g4⟩ := fo φ z
        exact ⟨by show (if H φ.a = none then F' φ.a else F φ.a) = none; rw [if_neg (by rw [h3.1]; simp)]; exact h1, g2, ⟨g3.1, fun q hq => by
          obtain ⟨ps, e3⟩ := h3.2.at_ hq
          show (if H q.1 = none then F' q.1 else F q.1) = none
          rw [if_neg (by rw [e3]; simp)]
          exact h3.2.1 q hq, g3.2.2⟩, e2.ff _ _ h4⟩
      have S2 := S.step e2 fo2
      refine hg v _ H' A (S2.push (tups_rep (fun a xs hs => ?_) r q))
      rcases hs with hs | hs
      · refine .inl ?_
        have key : ∀ u, F' a = some u → (∀ w, u ≠ .lst w) → (∀ w, u ≠ .dK w) → (∀ C d w, u ≠ .ins C d w) → (if H a = none then F' a else F a) = some u := fun u hu n1 n2 n3 => by
          by_cases hb : H a = none
          · rw [if_pos hb]; exact hu
          · rw [if_neg hb]
            have z := e.fr a hb
            rw [hu] at z
            by_cases own : ∃ i ev, (ρ ++ evs)[i]? = some ev ∧ ev.own = true ∧ A i = a
            · obtain ⟨i, ev, hi, ho, rfl⟩ := own
              rw [Fp_own hi ho] at z
              have sl := S.slot i ev hi
              cases ev with
              | ol xs => obtain ⟨_, _, _, _, w, g, _⟩ := sl; rw [g] at z; exact absurd (Option.some.inj z) (n1 _)
              | od xs => obtain ⟨_, _, _, _, w, g, _⟩ := sl; rw [g] at z; exact absurd (Option.some.inj z) (n2 _)
              | oi y c xs => obtain ⟨_, _, _, _, _, C, dx, w, g, _⟩ := sl; rw [g] at z; exact absurd (Option.some.inj z) (n3 _ _ _)
              | _ => cases ho
            · rw [Fp_not own] at z
              exact z.symm
        rcases hs with hs | ⟨o, hs⟩
        · exact .inl (key _ hs (by intro w z; cases z) (by intro w z; cases z) (by intro C d w z; cases z))
        · exact .inr ⟨o, key _ hs (by intro w z; cases z) (by intro w z; cases z) (by intro C d w z; cases z)⟩
      · exact .inr hs
    · rw [if_neg q] at hg
      exact hg.elim
theorem vj_viewT {e : Expr} {f : Env' → M D} (h : ED X fa (fun _ => W) e f) : VJ X fa W e (vViewT f) := by
  obtain ⟨t, p, k⟩ := h
  exact ⟨t, p, vok_viewT k⟩
end
end DL

set_option Elab.async false
set_option linter.all false
set_option maxRecDepth 100000
set_option maxHeartbeats 2000000
/-! The data layer: the module's tables asked; class constants; list(range); join; list * int; calls with defaults. -/
namespace DL
open PySem PySem.Spec PyProof.Rows L2
section
variable {X : Cx} {fa : Option FA} {W : L2.St → XK} {a b c e o : Expr} {es rest : List Expr} {pos p apos cpos bpos : Pos} {f1 f2 f3 : Env' → M D} {fl fk : Env' → M (List D)} {k : Nat} {kws : List Keyword}
/-! ### TABLE.get(k, d), TABLE[k], k in TABLE -/
def tabGet (tab : List (Str × Int)) : D → D → Option D
  | .str k, z => some (match tab.lookup k with
    | some i => .int i
    | none => z)
  | _, _ => none
theorem ed_ktget2 {x : Str} {tab : List (Str × Int)} (C : KTab X.K X.w X.mg x tab) (ha : ED X fa W a f2) (hb : ED X fa W b f3) (hg : Gl X x := by rfl) (hd : (x == ("__debug__" : Str)) = false := by decide)
    (base : attributeBase (.Name x p) "get" X.env (eval (.Name x p) X.env) = eval (.Name x p) X.env := by rfl)
    (few : ((backTo cpos (starEach [a, b] X.env)).all (fun x => !x.1) && (backToKw cpos (keywordEach [] X.env)).all (fun x => x.1.isSome) && decide (([a, b] : List Expr).length + ([] : List Keyword).length + (if ([] : List Keyword).isEmpty then 0 else 1) < 30)) = true := by rfl)
    (line : (apos.endLine == cpos.line) = true := by rfl) (trees : backTo cpos (starEach [a, b] X.env) = [(false, eval a X.env), (false, eval b X.env)] := by rfl) :
    ED X fa W (.Call (.Attribute (.Name x p) "get" apos) [a, b] [] cpos) (dOp (tabGet tab) f2 f3) := by
  obtain ⟨d, es, n, hm, D, ht⟩ := C.ex
  obtain ⟨ta, pa, ka⟩ := ha
  obtain ⟨tb, pb, kb⟩ := hb
  refine ⟨fun σ H Q => ta σ H fun y H1 => tb σ H1 fun z H2 => ∃ k, y = .str k ∧ Q (match tab.lookup k with
    | some i => .int i
    | none => z) H2, ⟨fun pins s σ H Q I h => ?_⟩, fun σ F H ρ s Q h1 h2 h3 h => ?_⟩
  · refine wpAny_Call_method base few line PySem.F.plainAttrs_dict PySem.F.slot_dict_get PySem.F.type_dict_get (thn ((pe_glob (v := .ref d) hg hm rfl hd).run pins s σ H (fun y H1 => y = .ref d ∧ ta σ H1 fun y H1 => tb σ H1 fun z H2 => ∃ k, y = .str k ∧ Q (match tab.lookup k with
      | some i => .int i
      | none => z) H2) I ⟨rfl, h⟩) fun u s1 ⟨y, H1, I1, rx, ey, q1⟩ => ?_)
    subst ey
    obtain rfl : u = Value.ref d := rx
    refine ⟨kd_type D I1, fun b q => ?_, ?_⟩
    · cases q
      exact ⟨_, I1.kIn _ _ D.at_, rfl⟩
    · rw [trees]
      refine Calls.callWith_builtin rfl (Calls.evalArgs_plain (Calls.spliced_cons (thn (pa.run pins s1 σ H1 _ I1 q1) fun iv s2 ⟨y, H2, I2, ry, q2⟩ =>
        Calls.spliced_cons (thn (pb.run pins s2 σ H2 _ I2 q2) fun fv s3 ⟨z, H3, I3, rz, k, ey, q3⟩ => Calls.spliced_nil ?_))))
      subst ey
      obtain ⟨t, rfl⟩ := ry
      have m := PySem.W.mapOf_K (prog := X.prog) (w := X.w) I3.kIn D.at_ D.lit
      refine call_meetsIn PySem.F.slot_dict_get (kd_type D I3) PySem.F.entry_dict_get (PySem.F.args_dict_get_3 _ _ _) (meets_dict_get_default (strKind X.prog X.w) d (PySem.strKind_is X.prog X.w k t) D.low fv) ⟨_, m, ?_⟩
      have nz := ktab_ns D ht k
      cases q : tab.lookup k with
      | none =>
        rw [q] at nz q3
        show EP X pins σ Q ((findBy Value.isStrOf es k).getD fv) _
        rw [PySem.W.find_K D.at_ nz]
        exact ⟨z, H3, I3.tok _, rz, q3⟩
      | some i =>
        rw [q] at nz q3
        obtain ⟨t', nz⟩ := nz
        show EP X pins σ Q ((findBy Value.isStrOf es k).getD fv) _
        rw [PySem.W.find_K D.at_ nz]
        exact ⟨.int i, H3, I3.tok _, ⟨t', rfl⟩, q3⟩
  · refine ka.then Good.tgt h1 h2 h3 h fun kd s2 w F2 H2 e2 o2 r2 v2 h'' => ?_
    refine kb.then Good.tgt e2.fh o2 v2 h'' fun z s3 u F3 H3 e3 o3 r3 v3 h4 => ?_
    have h5 := Good.lift h4
    cases r2 with
    | str k =>
      refine ⟨k, rfl, ?_⟩
      change GoodO X fa F3 H3 s3 (some (match tab.lookup k with
        | some i => .int i
        | none => z)) Q at h5
      cases q : tab.lookup k with
      | none => rw [q] at h5; exact GoodO.here e3.fh o3 r3 h5
      | some i => rw [q] at h5; exact GoodO.here e3.fh o3 (.int i) h5
    | _ => exact h5.elim
/-! ### C.NAME -/
/-- the module's class x has the constant f -/
def ClsCon (K : PySem.W.Frag) (mg : Str → Option Value) (x f : Str) (d : D) : Prop := ∃ C mc v u, mg x = some (.ref C) ∧ ClX.CRead K C mc ∧ ClX.CVal K C mc f v u ∧ ∀ fa F, Rep K fa F d v
theorem ed_clscon {x f : Str} {d : D} (h : ClsCon X.K X.mg x f d) (hg : Gl X x := by rfl) (hd : (x == ("__debug__" : Str)) = false := by decide) (hb : attributeBase (.Name x p) f X.env (eval (.Name x p) X.env) = eval (.Name x p) X.env := by rfl) : ED X fa W (.Attribute (.Name x p) f pos) (dC d) := by
  obtain ⟨C, mc, v, u, hm, r, cv, hr⟩ := h
  exact ⟨_, ClX.pe_cval (pe_glob (v := .ref C) hg hm rfl hd) hb, fun σ F H ρ s Q h1 h2 h3 h => ⟨C, mc, v, u, rfl, r, cv, Good.here h1 h2 (hr fa F) h⟩⟩

/-! ### list(range(..)) -/
instance {a b : Int} : Decidable (RgOk a b) := by unfold RgOk; infer_instance
def rgD (a b : Int) : Option D := if RgOk a b then some (.lst ((List.range (b - a).toNat).map fun i => D.int (a + (i : Nat)))) else none
theorem rgD_rep {K : PySem.W.Frag} {F : Hp} (a : Int) : ∀ l : List Nat, RepL K fa F (l.map fun i => D.int (a + (i : Nat))) (l.map fun i => V.int (a + (i : Nat)))
  | [] => .nil
  | i :: r => .cons (.int _) (rgD_rep a r)
def rgD1 : D → Option D
  | .int j => rgD 0 j
  | _ => none
def rgD2 : D → D → Option D
  | .int i, .int j => rgD i j
  | _, _ => none
theorem goodO_rg {F H : Hp} {s : FS} {a b : Int} {Q : VK} (h1 : Same F H) (h2 : FeedOk X.K fa F H s) (h : GoodO X fa F H s (rgD a b) Q) : RgOk a b ∧ ∀ q, H q = none → Q (.ref q) (upd H q (.lst (rgV a b))) := by
  unfold rgD at h
  by_cases hr : RgOk a b
  · rw [if_pos hr] at h
    exact ⟨hr, fun q hq => GoodO.new h1 h2 hq (.lst upd_same (rgD_rep a _)) h⟩
  · rw [if_neg hr] at h
    exact h.elim
theorem ed_listRg1 (hc : X.calm = true) (hm : X.mg "list" = none) (hm2 : X.mg "range" = none) (ha : ED X fa W a f1) (hg : Gl X "list" := by rfl) (hg2 : Gl X "range" := by rfl) (na : starEach [a] X.env = (false, eval a X.env) :: starEach [] X.env := by rfl)
    (nb : starEach [.Call (.Name "range" p) [a] [] pos] X.env = (false, eval (.Call (.Name "range" p) [a] [] pos) X.env) :: starEach [] X.env := by rfl) : ED X fa W (.Call (.Name "list" bpos) [.Call (.Name "range" p) [a] [] pos] [] cpos) (dUn rgD1 f1) := by
  obtain ⟨ta, pa, ka⟩ := ha
  refine ⟨_, pe_listRg hc hg hm (prg_1 hg2 hm2 pa na) nb, fun σ F H ρ s Q h1 h2 h3 h => ?_⟩
  refine ka.then Good.tgt h1 h2 h3 h fun x s1 v F1 H1 e1 o1 r1 v1 h' => ?_
  have h' := Good.lift h'
  cases r1 with
  | int j => exact ⟨j, rfl, goodO_rg e1.fh o1 h'⟩
  | _ => exact h'.elim
theorem ed_listRg2 (hc : X.calm = true) (hm : X.mg "list" = none) (hm2 : X.mg "range" = none) (ha : ED X fa W a f1) (hb : ED X fa W b f2) (hg : Gl X "list" := by rfl) (hg2 : Gl X "range" := by rfl) (na : starEach [a, b] X.env = (false, eval a X.env) :: starEach [b] X.env := by rfl)
    (nb : starEach [b] X.env = (false, eval b X.env) :: starEach [] X.env := by rfl) (hp : (backTo pos (starEach [b] X.env)).any (·.1) = false := by rfl)
    (nc : starEach [.Call (.Name "range" p) [a, b] [] pos] X.env = (false, eval (.Call (.Name "range" p) [a, b] [] pos) X.env) :: starEach [] X.env := by rfl) : ED X fa W (.Call (.Name "list" bpos) [.Call (.Name "range" p) [a, b] [] pos] [] cpos) (dOp rgD2 f1 f2) := by
  obtain ⟨ta, pa, ka⟩ := ha
  obtain ⟨tb, pb, kb⟩ := hb
  refine ⟨_, pe_listRg hc hg hm (prg_2 hg2 hm2 pa pb na nb hp) nc, fun σ F H ρ s Q h1 h2 h3 h => ?_⟩
  refine ka.then Good.tgt h1 h2 h3 h fun x s1 v F1 H1 e1 o1 r1 v1 h' => ?_
  refine kb.then Good.tgt e1.fh o1 v1 h' fun y s2 w F2 H2 e2 o2 r2 v2 h'' => ?_
  have h'' := Good.lift h''
  cases r1 with
  | int i =>
    cases r2 with
    | int j => exact ⟨i, j, rfl, rfl, goodO_rg e2.fh o2 h''⟩
    | _ => exact h''.elim
  | _ => cases r2 <;> exact h''.elim

/-! ### sep.join(xs) -/
def joinD : D → List D → Option D
  | .str a, [.lst xs] => (strsD xs).bind fun ys => if (ys.map (·.length)).sum + ys.length * a.length ≤ 16777216 then some (.str (Txt.join a ys)) else none
  | .str a, [.tup xs] => (strsD xs).bind fun ys => if (ys.map (·.length)).sum + ys.length * a.length ≤ 16777216 then some (.str (Txt.join a ys)) else none
  | _, _ => none
theorem ok_join : MtOk X fa (fun x xs H Q => ∃ a p, ∃ ys : List Str, x = .str a ∧ xs = [.ref p] ∧ (SqL X.K H p (ys.map V.str) ∨ SqT X.K H p (ys.map V.str)) ∧ (ys.map (·.length)).sum + ys.length * a.length ≤ 16777216 ∧ Q (.str (Txt.join a ys)) H) joinD := by
  intro F H s x xs d as Q h1 h2 r rl h
  cases r with
  | str a =>
    cases rl with
    | nil => exact h.elim
    | cons r0 t0 =>
      cases t0 with
      | cons _ _ => cases r0 <;> exact h.elim
      | nil =>
        cases r0 with
        | @lst p ds vs hq rr =>
          change GoodO X fa F H s ((strsD ds).bind _) Q at h
          cases q : strsD ds with
          | none => rw [q] at h; exact h.elim
          | some ys =>
            rw [q] at h
            have e := strsD_rep q rr
            subst e
            change GoodO X fa F H s (if (ys.map (·.length)).sum + ys.length * a.length ≤ 16777216 then some (.str (Txt.join a ys)) else none) Q at h
            by_cases hl : (ys.map (·.length)).sum + ys.length * a.length ≤ 16777216
            · rw [if_pos hl] at h
              exact ⟨a, p, ys, rfl, rfl, .inl (SqL.of (h1 _ _ hq)), hl, GoodO.here h1 h2 (.str _) h⟩
            · rw [if_neg hl] at h
              exact h.elim
        | @tup p ds vs hq rr =>
          change GoodO X fa F H s ((strsD ds).bind _) Q at h
          cases q : strsD ds with
          | none => rw [q] at h; exact h.elim
          | some ys =>
            rw [q] at h
            have e := strsD_rep q rr
            subst e
            change GoodO X fa F H s (if (ys.map (·.length)).sum + ys.length * a.length ≤ 16777216 then some (.str (Txt.join a ys)) else none) Q at h
            by_cases hl : (ys.map (·.length)).sum + ys.length * a.length ≤ 16777216
            · rw [if_pos hl] at h
              exact ⟨a, p, ys, rfl, rfl, .inr (same_seqT h1 hq), hl, GoodO.here h1 h2 (.str _) h⟩
            · rw [if_neg hl] at h
              exact h.elim
        | _ => exact h.elim
  | _ => cases rl <;> exact h.elim
theorem tyV_str : ∀ F H d v, Same F H → Rep X.K fa F d v → tyD d = some "str" → tyV X.K "str" v H := by
  intro F H d v h1 r h
  cases r with
  | str x => exact (show ("str" : String) = "str" from rfl)
  | _ => first | (cases h; done) | (injection h with h; exact absurd h (by decide))
theorem ht_join : ∀ d as, joinD d as ≠ none → tyD d = some "str" := by
  intro d as h
  cases d with
  | str a => rfl
  | _ => exact absurd rfl h
end
end DL

set_option Elab.async false
set_option linter.all false
set_option maxRecDepth 100000
set_option maxHeartbeats 2000000
/-! The data layer: list(dict); list * int. -/
namespace DL
open PySem PySem.Spec PyProof.Rows L2
section
variable {X : Cx} {fa : Option FA} {W : L2.St → XK}
def rListDR : List V → Hp → VK → Prop := fun xs H Q => ∃ p kvs, xs = [.ref p] ∧ Rd H p (.dK kvs) ∧ ∀ q, H q = none → Q (.ref q) (upd H q (.lst (kvs.map fun kv => kV kv.1)))
theorem call_list_dKR (hc : X.calm = true) : CallR X (.type "list") rListDR := by
  intro pins s σ H xs us Q I r h
  obtain ⟨p, kvs, rfl, hk, q⟩ := h
  rw [Vals.ref1 r]
  obtain ⟨z, lo, vs, rk, hd⟩ := (show ObjOk X.prog X.w H s.heap p (.dK kvs) from hk.ok I.hok)
  obtain ⟨ep, hat⟩ := hd.dictAt
  have hl : kvs.length = vs.length := Paired.length rk
  refine PySem.W.kdl_call (PySem.W.kdl_dict (knd := mixKind X.prog X.w) (kvs := vs) (ep := ep) lo) (I.ok.hd hc) hat (by rw [← hl]; exact z) fun h' tk acc' c' hkeep hS hacc => ?_
  have rel : Vals (kvs.map fun kv => kV kv.1) acc'.toList := by
    have el : acc'.toList.length = acc'.size := by simp
    refine vals_of_at (by rw [List.length_map, el, hacc.1, hl]) fun j x w h1 h2 => ?_
    obtain ⟨k, y, hky, hi⟩ := hacc.2 j w (by rw [← Array.getElem?_toList]; exact h2)
    have e1 : (kvs.map (·.1))[j]? = some k := by
      rw [KV.keys rk, List.getElem?_map, hky]; rfl
    rw [List.getElem?_map] at h1
    rw [List.getElem?_map] at e1
    cases e4 : kvs[j]? with
    | none => rw [e4] at e1; cases e1
    | some kv =>
      rw [e4] at e1 h1
      cases e1
      cases h1
      exact keyIs_rel hi
  exact ⟨.ref s.heap.objs.size, upd H s.heap.objs.size (.lst (kvs.map fun kv => kV kv.1)), I.laid hkeep (Nat.le_refl _) (show ObjOk X.prog X.w _ _ _ (.lst (kvs.map fun kv => kV kv.1)) from ⟨by rw [List.length_map]; exact z, acc'.toList, c', rel, by rw [Array.toArray_toList]; exact hS⟩), rfl, q _ (I.hok.fresh (Nat.le_refl _))⟩
def listDK : List D → Option D
  | [.dic xs] => some (.lst (xs.map fun kv => keyV kv.1))
  | _ => none
theorem repK_keys {K : PySem.W.Frag} {F F' : Hp} : ∀ {xs : List (Key × D)} {vs : List (Key × V)}, RepK K fa F xs vs → RepL K fa F' (xs.map fun kv => keyV kv.1) (vs.map fun kv => kV kv.1)
  | _, _, .nil => .nil
  | _, _, .cons (k := k) _ t => .cons (by cases k with
    | inl n => exact .int n
    | inr x => exact .str x) (repK_keys t)
theorem ok_listDK : CallOk X fa rListDR listDK := by
  intro F H s xs as Q h1 h2 r h
  cases r with
  | nil => exact h.elim
  | cons r t =>
    cases t with
    | cons _ _ => cases r <;> exact h.elim
    | nil =>
      cases r with
      | dic hq r => exact ⟨_, _, rfl, same_rd h1 hq, fun p hp => GoodO.new h1 h2 hp (.lst upd_same (repK_keys r)) h⟩
      | _ => exact h.elim
def mulLD : D → D → Option D
  | .lst xs, .int k => if -(2 ^ 63) ≤ k ∧ k < 2 ^ 63 ∧ xs.length * k.toNat ≤ sizeLine then some (.lst (List.replicate k.toNat xs).flatten) else none
  | _, _ => none
theorem repL_rep {K : PySem.W.Frag} {F : Hp} {xs : List D} {vs : List V} (r : RepL K fa F xs vs) : ∀ n : Nat, RepL K fa F (List.replicate n xs).flatten (List.replicate n vs).flatten
  | 0 => .nil
  | n + 1 => by
    rw [List.replicate_succ, List.replicate_succ, List.flatten_cons, List.flatten_cons]
    exact r.append (repL_rep r n)
theorem ok_mulL : OpOk X fa rRep mulLD := by
  intro F H s x y a b Q h1 h2 ra rb h
  cases ra with
  | @lst p xs vs hq r =>
    cases rb with
    | int k =>
      by_cases hk : -(2 ^ 63) ≤ k ∧ k < 2 ^ 63 ∧ xs.length * k.toNat ≤ sizeLine
      · rw [show mulLD (.lst xs) (.int k) = some (.lst (List.replicate k.toNat xs).flatten) from if_pos hk] at h
        exact ⟨p, k, vs, rfl, rfl, h1 _ _ hq, hk.1, hk.2.1, by rw [← r.length]; exact hk.2.2, fun q hn => GoodO.new h1 h2 hn (.lst upd_same ((repL_rep r _).mono (Ext.new (fa := fa) h1 hn).ff)) h⟩
      · rw [show mulLD (.lst xs) (.int k) = none from if_neg hk] at h
        exact h.elim
    | _ => exact h.elim
  | _ => cases rb <;> exact h.elim
/-- y = [elt for k in d if ..], d a name of a dict -/
theorem sj_setLcKeys {Wc : XK} {tg elt : Expr} {ifs : List Expr} {scope : Scope} {own : List (Str × Nat)} {pos vp spos py : Pos} {x y : Str} {i j : Nat} {b : D → Option Asg} {c : Env' → M Bool} {f : Env' → M D} {ns : List Nat} (hc : X.calm = true) (hN : X.N.Nodup) (hi : PE X (.Name x vp) (tVar i)) (ok : BlkOk X.N X.env.scope scope own)
    (hin : ∀ n ∈ ns, n ∈ own.map (·.2)) (hni : ∀ n ∈ own.map (·.2), n ∈ ns)
    (hg : BlkD X scope fun Y => TJ Y tg ns b) (ht : BlkD X scope fun Y => PTsD Y fa Wno ifs c) (he : BlkD X scope fun Y => ED Y fa Wno elt f)
    (hy : X.N[j]? = some y := by rfl) (hyl : X.env.scope.names.lookup y = some .local := by rfl) (hsw : swapsWith (.ListComp elt [⟨tg, .Name x vp, ifs, 0⟩] scope pos) (some (.Name y py)) spos.line X.env = pure true := by exact sw_true rfl rfl rfl (by decide +kernel)) (hs : ∀ y, foldedSetIterable (.Name x vp) X.env y = pure y := by intro _; rfl) :
    SJ X fa Wc (.Assign [.Name y py] (.ListComp elt [⟨tg, .Name x vp, ifs, 0⟩] scope pos) spos) (gSet j (vNew (dLc (keysD i) b c f))) := by
  have p : PS X (.Assign [.Name y py] (.ListComp elt [⟨tg, .Name x vp, ifs, 0⟩] scope pos) spos) (tAsg (tLc (iKeys (tVar i)) (gStar X ns b) (tStarB X fa Wno c) (tStar X fa Wno f) (own.map (·.2))) (gName j)) :=
    ps_setLc hc hN hy hyl hsw (pi_keys hi) ok (fun s H C cl fp => (hg s H C cl fp).star) (tt := tStarB X fa Wno c) (fun s H C cl fp => (ht s H C cl fp).star) (fun s H C cl fp => (he s H C cl fp).star) hs
  exact sj_asg (te := fun σ H Q => tLc (iKeys (tVar i)) (gStar X ns b) (tStarB X fa Wno c) (tStar X fa Wno f) (own.map fun q : Str × Nat => q.2) σ H Q ∨ tLockE (tLc (iKeys (tVar i)) (gStar X ns b) (tStarB X fa Wno c) (tStar X fa Wno f) (own.map fun q : Str × Nat => q.2)) σ H Q)
    ⟨fun pins s σ H D I h => h.elim (p.run pins s σ H D I) ((ps_lock p).run pins s σ H D I)⟩
    (vok_new (nok_lock (nok_lcP (tg := tg) (iter := .Name x vp) (elt := elt) iok_keys hin hni) (keys_bad i b c f) (lc_quiet (keys_calm i))))
end
end DL

set_option Elab.async false
set_option linter.all false
set_option maxRecDepth 100000
set_option maxHeartbeats 2000000
/-! The data layer: owned dict comprehensions as values; the making of instances from what the top has laid; lists of facts. -/
namespace DL
open PySem PySem.Spec PyProof.Rows L2
section
variable {X : Cx} {fa : Option FA} {W : XK} {kx vx tg iter : Expr} {ifs : List Expr} {scope : Scope} {own : List (Str × Nat)} {pos : Pos} {it : Env' → M (List D)} {b : D → Option Asg} {c : Env' → M Bool} {kf vf : Env' → M D} {ns : List Nat}
theorem vj_dc (hc : X.calm = true) (hN : X.N.Nodup) (hi : IJ X fa (fun _ => W) tg iter it) (ok : BlkOk X.N X.env.scope scope own) (hin : ∀ n ∈ ns, n ∈ own.map (·.2)) (hni : ∀ n ∈ own.map (·.2), n ∈ ns)
    (hg : BlkD X scope fun Y => TJ Y tg ns b) (ht : BlkD X scope fun Y => PTsD Y fa Wno ifs c) (hk : BlkD X scope fun Y => ED Y fa Wno kx kf) (hv : BlkD X scope fun Y => ED Y fa Wno vx vf) (hs : ∀ x, foldedSetIterable iter X.env x = pure x := by intro _; rfl) :
    VJ X fa W (.DictComp kx vx [⟨tg, iter, ifs, 0⟩] scope pos) (vNewDc (dDc it b c kf vf)) := by
  obtain ⟨wi, pi, ki⟩ := hi
  exact ⟨_, pe_dc hc hN pi ok (fun s H C cl fp => (hg s H C cl fp).star) (tt := tStarB X fa Wno c) (fun s H C cl fp => (ht s H C cl fp).star) (fun s H C cl fp => (hk s H C cl fp).star) (fun s H C cl fp => (hv s H C cl fp).star) hs, vok_newDc (dn_run ki hin hni)⟩
end
theorem all_nil {α : Type} {p : α → Prop} : ∀ q ∈ ([] : List α), p q := fun q h => by cases h
theorem all_cons {α : Type} {p : α → Prop} {a : α} {l : List α} (h : p a) (t : ∀ q ∈ l, p q) : ∀ q ∈ a :: l, p q := fun q h' => by
  rcases List.mem_cons.mp h' with rfl | h'
  · exact h
  · exact t q h'
section
variable {P : Program} {w : World} {K : PySem.W.Frag} {mg : Str → Option Value} {base : Heap} {k n : Nat} {cls qual : Str} {params : Arguments} {body : List Stmt} {scope : Scope} {f C : Addr} {fd : FuncData} {ps ks : List Str} {g : Addr → List D → M (List (Str × D))} {dvs : List V} {kws : List (Str × V)} {h : Heap}
/-- every parameter is written; there are defaults and keyword-only parameters -/
theorem mal_full (X : K.In h) (G : h.Ns mainGlobals mg) (hn : PySem.W.nsIn K mainGlobals cls = some (some (.ref C))) (mk : Mk K C f) (Fn : FnOk P w K mg base (L2.CX P w) k f fd ps (DSpI K mg cls g)) (F : FunD K "__init__" qual params body scope dvs kws f fd)
    (hd : dvs ≠ []) (hk : kws ≠ [])
    (hb : ∀ (T D : Addr) (doc pm : Value) (an : Option Addr) (cdv ct : Value) (us its mv ws : List Value), us.length = n + 1 → its.length = dvs.length → mv.length = ([] : List (Str × V)).length → ws.length = ks.length →
      ∃ k, bindArgs (PySem.W.fnOf "__init__" qual params body scope (.ref T) (.ref D) doc pm an cdv ct) ⟨us, ks.zip ws⟩ = seqItems? (.ref T) >>= k ∧ KwChain D ((([] : List (Str × V)).map (·.1)).zip mv) (k (some its.toArray)) (ps.zip (us ++ ws))) :
    Mal P w K mg base k cls n ks (fun us ws => us ++ ws) g := by
  obtain ⟨its, mv, B⟩ := F.kbinds (n + 1) ks [] (fun {α} us _ _ ws => us ++ ws) hd hk (fun q hq => by cases hq) (fun r1 _ _ r4 => r1.append r4) hb
  exact ⟨C, f, fd, ps, _, _, hn, PySem.W.mg_of X G hn, mk, Fn, B, fun fa F x vs zs ds es _ _ r1 r2 => ⟨vs ++ zs, rfl, r1.append r2⟩⟩
/-- .. there are defaults only -/
theorem mal_fullD (X : K.In h) (G : h.Ns mainGlobals mg) (hn : PySem.W.nsIn K mainGlobals cls = some (some (.ref C))) (mk : Mk K C f) (Fn : FnOk P w K mg base (L2.CX P w) k f fd ps (DSpI K mg cls g)) (F : FunD K "__init__" qual params body scope dvs kws f fd)
    (hd : dvs ≠ [])
    (hb : ∀ (T : Addr) (kV doc pm : Value) (an : Option Addr) (cdv ct : Value) (us its ws : List Value), us.length = n + 1 → its.length = dvs.length → ws.length = ks.length →
      ∃ k, bindArgs (PySem.W.fnOf "__init__" qual params body scope (.ref T) kV doc pm an cdv ct) ⟨us, ks.zip ws⟩ = seqItems? (.ref T) >>= k ∧ k (some its.toArray) = pure (ps.zip (us ++ ws))) :
    Mal P w K mg base k cls n ks (fun us ws => us ++ ws) g := by
  obtain ⟨its, B⟩ := F.kbindsD (n + 1) ks (fun {α} us _ ws => us ++ ws) hd (fun r1 _ r4 => r1.append r4) hb
  exact ⟨C, f, fd, ps, _, _, hn, PySem.W.mg_of X G hn, mk, Fn, B, fun fa F x vs zs ds es _ _ r1 r2 => ⟨vs ++ zs, rfl, r1.append r2⟩⟩
/-- .. there are neither -/
theorem mal_full0 (X : K.In h) (G : h.Ns mainGlobals mg) (hn : PySem.W.nsIn K mainGlobals cls = some (some (.ref C))) (mk : Mk K C f) (Fn : FnOk P w K mg base (L2.CX P w) k f fd ps (DSpI K mg cls g)) (F : FunD K "__init__" qual params body scope [] [] f fd)
    (hb : ∀ (kV doc pm : Value) (an : Option Addr) (cdv ct : Value) (us ws : List Value), us.length = n + 1 → ws.length = ks.length →
      bindArgs (PySem.W.fnOf "__init__" qual params body scope .none kV doc pm an cdv ct) ⟨us, ks.zip ws⟩ = pure (ps.zip (us ++ ws))) :
    Mal P w K mg base k cls n ks (fun us ws => us ++ ws) g := by
  obtain ⟨oc, od, dV, kV, doc, pm, an, cdv, ct, osl, e, lk, hcd, hD, hK⟩ := id F.ex
  rcases hD with ⟨_, rfl⟩ | ⟨e, _⟩
  · subst e
    exact ⟨C, f, _, ps, fun us ws => us ++ ws, fun us ws => us ++ ws, hn, PySem.W.mg_of X G hn, mk, Fn, ⟨fun s us ws X l1 l2 => .of_eq (hb _ _ _ _ _ _ us ws l1 l2), fun r1 r2 => r1.append r2⟩, fun fa F x vs zs ds es _ _ r1 r2 => ⟨vs ++ zs, rfl, r1.append r2⟩⟩
  · exact absurd rfl e
end
end DL

set_option Elab.async false
set_option linter.all false
set_option maxRecDepth 100000
set_option maxHeartbeats 2000000
/-! The data layer: how the newer computations run. -/
namespace DL
open PySem PySem.Spec PyProof.Rows L2
section
variable {ρ : Env'} {s : FS} {Q : D → FS → Prop} {QL : List D → FS → Prop} {f1 : Env' → M D} {fl fk : Env' → M (List D)} {c f : Str} {fs : List (Str × D)}
theorem Rm.attr {tab : List (Str × AK)} (h : Rm (f1 ρ) s fun x s => Rm (attrD tab f x) s Q) : Rm (dAttr tab f f1 ρ) s Q := Rm.bind h
theorem Rm.attrF {tab : List (Str × AK)} {d : D} (e : tab.lookup c = some .fld) (l : fs.lookup f = some d) (q : Q d s) : Rm (attrD tab f (.ins c fs)) s Q := by
  unfold attrD
  dsimp only
  rw [e]
  exact Rm.lift l q
theorem Rm.attrP {tab : List (Str × AK)} {g : List D → M D} (e : tab.lookup c = some (.prop g)) (h : Rm (g [.ins c fs]) s Q) : Rm (attrD tab f (.ins c fs)) s Q := by
  unfold attrD
  dsimp only
  rw [e]
  exact Rm.quiet h
theorem Rm.meth {tab : List (Str × (List D → M D))} {m : Str} (h : Rm (f1 ρ) s fun x s => Rm (M.lift (methOf tab m x)) s fun g s => Rm (fl ρ) s fun xs s => Rm (g (x :: xs)) s Q) : Rm (dMeth tab m f1 fl ρ) s Q := Rm.bind (h.mono fun _ _ h => Rm.bind (h.mono fun _ _ h => Rm.bind h))
theorem Rm.make {cls : Str} {n m : Nat} {perm : List D → List D → List D} {g : Addr → List D → M (List (Str × D))} (h : Rm (fl ρ) s fun xs s => Rm (fk ρ) s fun zs s => (xs.length = n ∧ zs.length = m) ∧ Rm (makeD cls g (perm xs zs)) s Q) : Rm (dMake cls n m perm g fl fk ρ) s Q :=
  Rm.bind (h.mono fun xs s h => Rm.bind (h.mono fun zs s ⟨h1, h2⟩ => by rw [if_pos h1]; exact h2))
theorem Rm.makeD {cls : Str} {g : Addr → List D → M (List (Str × D))} {ds : List D} {s' : FS} (h : ∀ x, g x ds s = .ok fs s') (q : Q (.ins cls fs) s') : Rm (DL.makeD cls g ds) s Q := Rm.eq (makeD_eq h) q
theorem Rm.init {n k : Nat} {cls : Str} {body : Sts → M (Fl × Sts)} {x : Addr} {ds : List D} {QF : List (Str × D) → FS → Prop} (hk : ds.length + 1 = k) (h : Rm (body (.oi x cls [] :: (ds.map EV.d ++ List.replicate (n - k) .no))) s fun p s => Rm (initK x cls p) s QF) : Rm (initRun n k cls body x ds) s QF := by
  unfold initRun
  rw [if_pos hk]
  exact Rm.bind h
theorem Rm.initk {cls : Str} {x : Addr} {ρ : Sts} {QF : List (Str × D) → FS → Prop} (e : ρ[0]? = some (.oi x cls fs)) (q : QF fs s) : Rm (initK x cls (.nx, ρ)) s QF := by
  unfold initK slfOf
  rw [e]
  dsimp only
  rw [if_pos ⟨rfl, rfl⟩]
  exact ⟨q⟩
theorem Rm.callS {g : List D → M D} (h : Rm (f1 ρ) s fun x s => Rm (M.lift (seqD x)) s fun xs s => Rm (g xs) s Q) : Rm (dCallS g f1 ρ) s Q := Rm.bind (h.mono fun _ _ h => Rm.bind h)
theorem Rm.star {n : Nat} {g : List D → M D} {ds : List D} (h : n ≤ ds.length ∧ ds.length - n ≤ sizeLine) (q : Rm (g (ds.take n ++ [.tup (ds.drop n)])) s Q) : Rm (starD n g ds) s Q := by
  unfold starD
  rw [if_pos h]
  exact q
end
section
variable {ρ : Sts} {s : FS} {Q : Fl × Sts → FS → Prop} {QV : EV × Sts → FS → Prop} {fv fv2 fv3 : Sts → M (EV × Sts)} {i j l : Nat} {c f : Str} {fs : List (Str × D)}
theorem Rm.par3 (hl : i < ρ.length ∧ j < ρ.length ∧ l < ρ.length) (h : Rm (fv ρ) s fun p s => Rm (fv2 p.2) s fun q s => Rm (fv3 q.2) s fun r s => Q (.nx, ((r.2.set i p.1).set j q.1).set l r.1) s) : Rm (gPar3 i j l fv fv2 fv3 ρ) s Q := by
  unfold gPar3
  rw [if_pos hl]
  exact Rm.bind (h.mono fun p s h => Rm.bind (h.mono fun q s h => Rm.bindP h))
def fldK (i : Nat) (cls f : Str) (p : EV × Sts) : M (Fl × Sts) := match p.1, p.2[i]? with
  | .d x, some (EV.oi y c fs) => if fs.length < 1000 ∧ c = cls then M.pure (.nx, p.2.set i (.oi y c (putFD f x fs))) else M.bad
  | _, _ => M.bad
theorem Rm.fld (h : Rm (fv ρ) s fun p s => Rm (fldK i c f p) s Q) : Rm (gFld i c f fv ρ) s Q := Rm.bind h
theorem Rm.fldk {x : D} {y : Addr} (e : ρ[i]? = some (.oi y c fs)) (hl : fs.length < 1000) (q : Q (.nx, ρ.set i (.oi y c (putFD f x fs))) s) : Rm (fldK i c f (.d x, ρ)) s Q := by
  unfold fldK
  dsimp only
  rw [e]
  dsimp only
  rw [if_pos ⟨hl, rfl⟩]
  exact ⟨q⟩
def fldsK (i : Nat) (cls : Str) (fns : List Str) (q : List D × Sts) : M (Fl × Sts) := match q.2[i]? with
  | some (EV.oi y c fs) => if q.1.length = fns.length ∧ fs.length + fns.length < 1000 ∧ c = cls then M.pure (.nx, q.2.set i (.oi y c (putAll fns q.1 fs))) else M.bad
  | _ => M.bad
theorem Rm.flds {fns : List Str} {fl : Sts → M (List D × Sts)} (h : Rm (fl ρ) s fun p s => Rm (fldsK i c fns p) s Q) : Rm (gFlds i c fns fl ρ) s Q := Rm.bind h
theorem Rm.fldsk {fns : List Str} {xs : List D} {y : Addr} (e : ρ[i]? = some (.oi y c fs)) (hl : xs.length = fns.length ∧ fs.length + fns.length < 1000) (q : Q (.nx, ρ.set i (.oi y c (putAll fns xs fs))) s) : Rm (fldsK i c fns (xs, ρ)) s Q := by
  unfold fldsK
  dsimp only
  rw [e]
  dsimp only
  rw [if_pos ⟨hl.1, hl.2, rfl⟩]
  exact ⟨q⟩
theorem Rm.vnewDc {g : Env' → M (List (Key × D))} (h : Rm (g (mask ρ)) s fun xs s => QV (.od xs, ρ) s) : Rm (vNewDc g ρ) s QV := Rm.bindP h
theorem Rm.vviewT {g : Env' → M D} (h : Rm (g (view ρ)) s fun x s => tupsB x = true ∧ QV (.d x, ρ) s) : Rm (vViewT g ρ) s QV := Rm.bind (h.mono fun x s ⟨h1, h2⟩ => by rw [if_pos h1]; exact ⟨h2⟩)
theorem tupsAnd {d : D} {p : Prop} (h : tupsB d = true) (q : p) : tupsB d = true ∧ p := ⟨h, q⟩
theorem Rm.setDc {g : Env' → M (List (Key × D))} (h : Rm (g (mask ρ)) s fun xs s => Q (.nx, ρ.set i (.od xs)) s) : Rm (gSet i (vNewDc g) ρ) s Q := Rm.set (Rm.vnewDc h)
theorem Rm.setVT {g : Env' → M D} (h : Rm (g (view ρ)) s fun x s => tupsB x = true ∧ Q (.nx, ρ.set i (.d x)) s) : Rm (gSet i (vViewT g) ρ) s Q := Rm.set (Rm.vviewT h)
end
section
variable {ρ : Env'} {s : FS} {it it1 : Env' → M (List D)} {b b1 : D → Option Asg} {c c1 : Env' → M Bool} {f kf vf : Env' → M D} {xs : List D} {Q : List D → FS → Prop} {QK : List (Key × D) → FS → Prop} {lim : Nat} {okI : D → Bool} {vs : List Nat}
/-- a comprehension with a test, known -/
theorem lcE_filter (p : D → Bool) (G : D → D) (h : ∀ x, x ∈ xs → ∃ as, b x = some as ∧ c (setE as ρ) s = .ok (p x) s ∧ (p x = true → f (setE as ρ) s = .ok (G x) s)) : lcE b c f xs ρ s = .ok ((xs.filter p).map G) s := by
  induction xs with
  | nil => rfl
  | cons x r ih =>
    obtain ⟨as, e, h1, h2⟩ := h x List.mem_cons_self
    have ih := ih fun x hx => h x (List.mem_cons_of_mem _ hx)
    refine Rm.det ?_
    show Rm (M.bind (M.lift (b x)) _) s _
    rw [e]
    refine Rm.bind (Rm.lift rfl (Rm.bind (Rm.eq h1 ?_)))
    cases hp : p x with
    | true =>
      rw [List.filter_cons_of_pos hp]
      rw [if_pos rfl]
      exact Rm.bind (Rm.eq (h2 hp) (Rm.bind (Rm.eq ih ⟨⟨rfl, rfl⟩⟩)))
    | false =>
      rw [List.filter_cons_of_neg (by rw [hp]; decide)]
      rw [if_neg (by decide)]
      exact Rm.eq ih ⟨rfl, rfl⟩
theorem lcE_map (G : D → D) (h : ∀ x, x ∈ xs → ∃ as, b x = some as ∧ f (setE as ρ) s = .ok (G x) s) : lcE b cYes f xs ρ s = .ok (xs.map G) s := by
  have := lcE_filter (c := cYes) (xs := xs) (b := b) (f := f) (ρ := ρ) (s := s) (fun _ => true) G fun x hx => by
    obtain ⟨as, e, h1⟩ := h x hx
    exact ⟨as, e, rfl, fun _ => h1⟩
  rw [this, List.filter_eq_self.mpr fun _ _ => rfl]
theorem Rm.lcEq {ys : List D} (h : Rm (it ρ) s fun xs s => xs.length ≤ sizeLine ∧ lcE b c f xs ρ s = .ok ys s ∧ Q ys s) : Rm (dLc it b c f ρ) s Q := Rm.lc (h.mono fun xs s ⟨h1, h2, h3⟩ => ⟨h1, Rm.eq h2 h3⟩)
theorem lcE2_flat (G : D → List D) (h : ∀ x, x ∈ xs → ∃ as, b x = some as ∧ c (setE as ρ) s = .ok true s ∧ ∃ ys, it1 (setE as ρ) s = .ok ys s ∧ lcE b1 c1 f ys (setE as ρ) s = .ok (G x) s) : lcE2 b c it1 b1 c1 f xs ρ s = .ok (xs.flatMap G) s := by
  induction xs with
  | nil => rfl
  | cons x r ih =>
    obtain ⟨as, e, h1, ys, h2, h3⟩ := h x List.mem_cons_self
    have ih := ih fun x hx => h x (List.mem_cons_of_mem _ hx)
    refine Rm.det ?_
    show Rm (M.bind (M.lift (b x)) _) s _
    rw [e]
    refine Rm.bind (Rm.lift rfl (Rm.bind (Rm.eq h1 ?_)))
    rw [if_pos rfl]
    exact Rm.bind (Rm.eq h2 (Rm.bind (Rm.eq h3 (Rm.bind (Rm.eq ih ⟨⟨by rw [List.flatMap_cons], rfl⟩⟩)))))
theorem Rm.lc2 {ys : List D} (h : Rm (it ρ) s fun xs s => lcE2 b c it1 b1 c1 f xs (wipeE ρ vs) s = .ok ys s ∧ fitsL lim okI ys = true ∧ Q ys s) : Rm (dLc2 lim okI vs it b c it1 b1 c1 f ρ) s Q :=
  Rm.bind (h.mono fun xs s ⟨h1, h2, h3⟩ => Rm.bind (Rm.quiet (Rm.eq h1 (by rw [if_pos h2]; exact ⟨h3⟩))))
theorem Rm.sortSet2 {QD : D → FS → Prop} (h : Rm (dLc2 4000 isStrD vs it b c it1 b1 c1 f ρ) s fun ys s => Rm (M.lift (sortSetD ys)) s QD) : Rm (dSortSet2 vs it b c it1 b1 c1 f ρ) s QD := Rm.bind h
/-- what a dict comprehension with no test gathers -/
def dcAll (kf : D → Key) (vf : D → D) : List D → List (Key × D) → List (Key × D)
  | [], acc => acc
  | x :: xs, acc => dcAll kf vf xs (putD acc (kf x) (vf x))
theorem putD_le (acc : List (Key × D)) (k : Key) (v : D) : (putD acc k v).length ≤ acc.length + 1 := by
  unfold putD
  split <;> simp
theorem dcE_all (gk : D → Key) (gv : D → D) {acc : List (Key × D)} (hl : acc.length + xs.length ≤ sizeLine) (h : ∀ x, x ∈ xs → ∃ as, b x = some as ∧ kf (setE as ρ) s = .ok (keyV (gk x)) s ∧ vf (setE as ρ) s = .ok (gv x) s) : dcE b cYes kf vf xs ρ acc s = .ok (dcAll gk gv xs acc) s := by
  induction xs generalizing acc with
  | nil => rfl
  | cons x r ih =>
    obtain ⟨as, e, h1, h2⟩ := h x List.mem_cons_self
    rw [List.length_cons] at hl
    have ih := ih (acc := putD acc (gk x) (gv x)) (by have := putD_le acc (gk x) (gv x); omega) fun x hx => h x (List.mem_cons_of_mem _ hx)
    refine Rm.det ?_
    show Rm (M.bind (M.lift (b x)) _) s _
    rw [e]
    refine Rm.bind (Rm.lift rfl (Rm.bind (Rm.cyes ?_)))
    rw [if_pos rfl]
    refine Rm.bind (Rm.eq h1 (Rm.bind (Rm.eq h2 (Rm.bind (Rm.lift (a := gk x) ?_ ?_)))))
    · cases gk x <;> rfl
    · rw [if_pos (by omega)]
      exact Rm.eq ih ⟨rfl, rfl⟩
theorem Rm.dc {ys : List (Key × D)} (h : Rm (it ρ) s fun xs s => dcE b c kf vf xs ρ [] s = .ok ys s ∧ QK ys s) : Rm (dDc it b c kf vf ρ) s QK := Rm.bind (h.mono fun xs s ⟨h1, h2⟩ => Rm.quiet (Rm.eq h1 h2))
end
end DL

set_option Elab.async false
set_option linter.all false
set_option maxRecDepth 100000
set_option maxHeartbeats 2000000
/-! The data layer: a new list of plain things that owned things tell. -/
namespace DL
open PySem PySem.Spec PyProof.Rows L2
section
variable {X : Cx} {fa : Option FA} {W : XK}
def vViewL (f : Env' → M (List D)) : Sts → M (EV × Sts) := fun ρ => (f (view ρ)).bind fun xs => if tupsL xs = true then M.pure (.d (.lst xs), ρ) else M.bad
open Classical in
theorem vok_viewL {t : TE} {f : Env' → M (List D)} (h : NOk X fa (fun _ => W) t f) : VOk X fa W t (vViewL f) := by
  intro B F0 H0 F H A σ vs ρ evs s Q hl S hg
  obtain ⟨ff, fh, fo0, ex0⟩ := S.fp
  refine h σ (Fp F H A (ρ ++ evs)) H (view ρ) s Q fh fo0 (S.view hl) ?_
  change GoodV X fa W B F0 H0 σ vs evs ((f (view ρ) s).bnd _) Q at hg
  generalize f (view ρ) s = r at hg
  cases r with
  | bad => exact hg
  | err e s' => exact fun cls dd F' H' e fo rx => hg cls dd F' H' (ex0.trans e) fo rx
  | ok xs s' =>
    intro p vs' F' H' e fo hp fp hq r
    change GoodV X fa W B F0 H0 σ vs evs ((if tupsL xs = true then M.pure (EV.d (.lst xs), ρ) else M.bad) s') Q at hg
    by_cases q : tupsL xs = true
    · rw [if_pos q] at hg
      let F2 : Hp := fun b => if b = p then some (.lst vs') else if H b = none then F' b else F b
      have f2p : F2 p = some (.lst vs') := if_pos rfl
      have f2n : ∀ b, b ≠ p → H b = none → F2 b = F' b := fun b h1 h2 => by
        show (if b = p then _ else if H b = none then F' b else F b) = _
        rw [if_neg h1, if_pos h2]
      have f2o : ∀ b, H b ≠ none → F2 b = F b := fun b h2 => by
        show (if b = p then _ else if H b = none then F' b else F b) = _
        have h1 : b ≠ p := fun z => h2 (by rw [z]; exact hp)
        rw [if_neg h1, if_neg h2]
      have e2 : Ext fa F H F2 H' := by
        refine ⟨fun b u z => ?_, fun b u z => ?_, e.hh, fun b z => f2o b z, e.al⟩
        · rw [f2o b (by rw [S.ext.fh b u z]; simp)]; exact z
        · by_cases hbp : b = p
          · subst hbp
            rw [f2p] at z
            rw [hq]; exact z
          · by_cases hb : H b = none
            · rw [f2n b hbp hb] at z
              exact e.fh b u z
            · rw [f2o b hb] at z
              exact e.fh b u (e.ff b u (ff b u z))
      have fo2 : FeedOk X.K fa F2 H' s' := fun φ z => by
        obtain ⟨h1, h2, h3, h4⟩ := S.fd φ z
        obtain ⟨g1, g2, g3, g4⟩ := fo φ z
        exact ⟨by rw [f2o _ (by rw [h3.1]; simp)]; exact h1, g2, ⟨g3.1, fun q2 hq2 => by
          obtain ⟨ps, e3⟩ := h3.2.at_ hq2
          rw [f2o _ (by rw [e3]; simp)]
          exact h3.2.1 q2 hq2, g3.2.2⟩, e2.ff _ _ h4⟩
      have S2 := S.step e2 fo2
      refine hg (.ref p) _ H' A (S2.push (.lst f2p (tups_repL (fun a xs hs => ?_) r q)))
      rcases hs with hs | hs
      · refine .inl ?_
        have key : ∀ u, F' a = some u → (∀ w, u ≠ .lst w) → (∀ w, u ≠ .dK w) → (∀ C d w, u ≠ .ins C d w) → F2 a = some u := fun u hu n1 n2 n3 => by
          have hap : a ≠ p := fun z => by rw [z, fp] at hu; cases hu
          by_cases hb : H a = none
          · rw [f2n a hap hb]; exact hu
          · rw [f2o a hb]
            have z := e.fr a hb
            rw [hu] at z
            by_cases own : ∃ i ev, (ρ ++ evs)[i]? = some ev ∧ ev.own = true ∧ A i = a
            · obtain ⟨i, ev, hi, ho, rfl⟩ := own
              rw [Fp_own hi ho] at z
              have sl := S.slot i ev hi
              cases ev with
              | ol xs => obtain ⟨_, _, _, _, w, g, _⟩ := sl; rw [g] at z; exact absurd (Option.some.inj z) (n1 _)
              | od xs => obtain ⟨_, _, _, _, w, g, _⟩ := sl; rw [g] at z; exact absurd (Option.some.inj z) (n2 _)
              | oi y c xs => obtain ⟨_, _, _, _, _, C, dx, w, g, _⟩ := sl; rw [g] at z; exact absurd (Option.some.inj z) (n3 _ _ _)
              | _ => cases ho
            · rw [Fp_not own] at z
              exact z.symm
        rcases hs with hs | ⟨o, hs⟩
        · exact .inl (key _ hs (by intro w z; cases z) (by intro w z; cases z) (by intro C d w z; cases z))
        · exact .inr ⟨o, key _ hs (by intro w z; cases z) (by intro w z; cases z) (by intro C d w z; cases z)⟩
      · exact .inr hs
    · rw [if_neg q] at hg
      exact hg.elim
theorem vj_viewL {e : Expr} {f : Env' → M (List D)} (h : ND X fa (fun _ => W) e f) : VJ X fa W e (vViewL f) := by
  obtain ⟨t, p, k⟩ := h
  exact ⟨t, p, vok_viewL k⟩
theorem Rm.vviewL {ρ : Sts} {s : FS} {QV : EV × Sts → FS → Prop} {f : Env' → M (List D)} (h : Rm (f (view ρ)) s fun xs s => tupsL xs = true ∧ QV (.d (.lst xs), ρ) s) : Rm (vViewL f ρ) s QV := Rm.bind (h.mono fun x s ⟨h1, h2⟩ => by rw [if_pos h1]; exact ⟨h2⟩)
def intFB : List D → Option D
  | [.int i] => some (.int i)
  | [.bl k] => some (.int (if k then 1 else 0))
  | _ => none
theorem ok_intFB : CallOk X fa (fun xs H Q => (∃ i, xs = [.int i] ∧ Q (.int i) H) ∨ ∃ k, xs = [.bl k] ∧ Q (.int (if k then 1 else 0)) H) intFB := by
  intro F H s xs as Q h1 h2 r h
  cases r with
  | nil => exact h.elim
  | cons r t =>
    cases t with
    | cons _ _ => cases r <;> exact h.elim
    | nil =>
      cases r with
      | int i => exact .inl ⟨i, rfl, GoodO.here h1 h2 (.int _) h⟩
      | bl k => exact .inr ⟨k, rfl, GoodO.here h1 h2 (.int _) h⟩
      | _ => exact h.elim
theorem tupsL_ints : ∀ xs : List Int, tupsL (xs.map D.int) = true
  | [] => by rw [List.map_nil, tupsL]
  | x :: r => by rw [List.map_cons, tupsL, tupsL_ints r, tupsB]; rfl
theorem tupsL_strs : ∀ xs : List Str, tupsL (xs.map D.str) = true
  | [] => by rw [List.map_nil, tupsL]
  | x :: r => by rw [List.map_cons, tupsL, tupsL_strs r, tupsB]; rfl
end
end DL

set_option Elab.async false
set_option linter.all false
set_option maxRecDepth 100000
set_option maxHeartbeats 2000000
/-! The data layer: one step of a run, found by its head. -/
namespace DL
open PySem PySem.Spec PyProof.Rows L2
class RmStep {α : Type} (m : M α) (s : FS) (Q : α → FS → Prop) (P : outParam Prop) : Prop where
  go : P → Rm m s Q
theorem Rm.step {α : Type} {m : M α} {s : FS} {Q : α → FS → Prop} {P : Prop} [h : RmStep m s Q P] (p : P) : Rm m s Q := h.go p
section
variable {ρ : Env'} {s : FS} {Q : D → FS → Prop} {QL : List D → FS → Prop} {QB : Bool → FS → Prop} {f f1 f2 f3 : Env' → M D} {fl : Env' → M (List D)} {c c1 c2 : Env' → M Bool} {g g' : D → D → Option D}
instance {α β : Type} {m : M α} {f : α → M β} {Q : β → FS → Prop} : RmStep (M.bind m f) s Q (Rm m s fun a s' => Rm (f a) s' Q) := ⟨Rm.bind⟩
instance {α : Type} {a : α} {Q : α → FS → Prop} : RmStep (M.pure a) s Q (Q a s) := ⟨Rm.pure⟩
instance {α : Type} {x y : M α} {Q : α → FS → Prop} : RmStep (if true = true then x else y) s Q (Rm x s Q) := ⟨Rm.iteT⟩
instance {α : Type} {x y : M α} {Q : α → FS → Prop} : RmStep (if false = true then x else y) s Q (Rm y s Q) := ⟨Rm.iteF⟩
instance {i : Nat} : RmStep (dVar i ρ) s Q (Rm (M.lift (ρ[i]?.join)) s Q) := ⟨Rm.var⟩
instance {d : D} : RmStep (dC d ρ) s Q (Q d s) := ⟨Rm.con⟩
instance : RmStep (dOp g f1 f2 ρ) s Q (Rm (f1 ρ) s fun x s => Rm (f2 ρ) s fun y s => Rm (M.lift (g x y)) s Q) := ⟨Rm.op⟩
instance {g : D → Option D} : RmStep (dUn g f1 ρ) s Q (Rm (f1 ρ) s fun x s => Rm (M.lift (g x)) s Q) := ⟨Rm.un⟩
instance : RmStep (lNil ρ) s QL (QL [] s) := ⟨Rm.lnil⟩
instance : RmStep (lCons f1 fl ρ) s QL (Rm (f1 ρ) s fun x s => Rm (fl ρ) s fun xs s => QL (x :: xs) s) := ⟨Rm.lcons⟩
instance {g : List D → Option D} : RmStep (dFn g fl ρ) s Q (Rm (fl ρ) s fun xs s => Rm (M.lift (g xs)) s Q) := ⟨Rm.fn⟩
instance {g : List D → M D} : RmStep (dCall g fl ρ) s Q (Rm (fl ρ) s fun xs s => Rm (g xs) s Q) := ⟨Rm.call⟩
instance {g : D → List D → Option D} : RmStep (dMt g f1 fl ρ) s Q (Rm (f1 ρ) s fun x s => Rm (fl ρ) s fun xs s => Rm (M.lift (g x xs)) s Q) := ⟨Rm.mt⟩
instance : RmStep (dIf c f1 f2 ρ) s Q (Rm (c ρ) s fun k s => Rm (if k = true then f1 ρ else f2 ρ) s Q) := ⟨Rm.dif⟩
instance : RmStep (dAnd f1 f2 ρ) s Q (Rm (f1 ρ) s fun x s => Rm (M.lift (truthD x)) s fun k s => Rm (if k = true then f2 ρ else M.pure x) s Q) := ⟨Rm.dand⟩
instance : RmStep (dOr f1 f2 ρ) s Q (Rm (f1 ρ) s fun x s => Rm (M.lift (truthD x)) s fun k s => Rm (if k = true then M.pure x else f2 ρ) s Q) := ⟨Rm.dor⟩
instance : RmStep (dNot f1 ρ) s Q (Rm (f1 ρ) s fun x s => Rm (M.lift (truthD x)) s fun k s => Q (.bl (!k)) s) := ⟨Rm.dnot⟩
instance : RmStep (cTru f1 ρ) s QB (Rm (f1 ρ) s fun x s => Rm (M.lift (truthD x)) s QB) := ⟨Rm.tru⟩
instance : RmStep (cCmp g f1 f2 ρ) s QB (Rm (f1 ρ) s fun x s => Rm (f2 ρ) s fun y s => Rm (M.lift (g x y)) s fun z s => Rm (M.lift (blD z)) s QB) := ⟨Rm.cmp⟩
instance : RmStep (cNot c ρ) s QB (Rm (c ρ) s fun k s => QB (!k) s) := ⟨Rm.cnot⟩
instance : RmStep (cAnd c1 c2 ρ) s QB (Rm (c1 ρ) s fun k s => Rm (if k = true then c2 ρ else M.pure false) s QB) := ⟨Rm.cand⟩
instance : RmStep (cOr c1 c2 ρ) s QB (Rm (c1 ρ) s fun k s => Rm (if k = true then M.pure true else c2 ρ) s QB) := ⟨Rm.cor⟩
instance : RmStep (cYes ρ) s QB (QB true s) := ⟨Rm.cyes⟩
instance {ts : List String} : RmStep (dIsi ts f ρ) s Q (Rm (f ρ) s fun x s => Rm (M.lift ((tyD x).bind fun t => (kitAnyB t ts).map D.bl)) s Q) := ⟨Rm.isi⟩
instance : RmStep (dNew fl ρ) s Q (Rm (fl ρ) s fun xs s => Q (.lst xs) s) := ⟨Rm.dnew⟩
instance {lo hi : Env' → M (Option Int)} : RmStep (dSl f lo hi ρ) s Q (Rm (f ρ) s fun x s => Rm (lo ρ) s fun l s => Rm (hi ρ) s fun u s => Rm (M.lift (slD x l u)) s Q) := ⟨Rm.sl⟩
instance {Q : Option Int → FS → Prop} : RmStep (oNo ρ) s Q (Q none s) := ⟨Rm.ono⟩
instance {Q : Option Int → FS → Prop} : RmStep (oSome f ρ) s Q (Rm (f ρ) s fun x s => Rm (M.lift (intD x)) s Q) := ⟨Rm.osome⟩
instance : RmStep (iAny f ρ) s QL (Rm (f ρ) s fun x s => Rm (M.lift (anyD' x)) s QL) := ⟨Rm.iany⟩
instance {g : List D → Option (List D)} : RmStep (iFn g fl ρ) s QL (Rm (fl ρ) s fun x s => Rm (M.lift (g x)) s QL) := ⟨Rm.ifn⟩
instance {it : Env' → M (List D)} {b : D → Option Asg} : RmStep (dLc it b c f ρ) s QL (Rm (it ρ) s fun xs s => xs.length ≤ sizeLine ∧ Rm (lcE b c f xs ρ) s QL) := ⟨Rm.lc⟩
instance : RmStep (dChain g g' f1 f2 f3 ρ) s Q (Rm (f1 ρ) s fun x s => Rm (f2 ρ) s fun y s => Rm (M.lift (g x y)) s fun z s => Rm (M.lift (blD z)) s fun k s => Rm (Rm.chainK g' f3 ρ y k) s Q) := ⟨Rm.chain⟩
instance : RmStep (cChain g g' f1 f2 f3 ρ) s QB (Rm (dChain g g' f1 f2 f3 ρ) s fun z s => Rm (M.lift (blD z)) s QB) := ⟨Rm.cchain⟩
instance {tab : List (Str × AK)} {f : Str} : RmStep (dAttr tab f f1 ρ) s Q (Rm (f1 ρ) s fun x s => Rm (attrD tab f x) s Q) := ⟨Rm.attr⟩
instance {tab : List (Str × (List D → M D))} {m : Str} : RmStep (dMeth tab m f1 fl ρ) s Q (Rm (f1 ρ) s fun x s => Rm (M.lift (methOf tab m x)) s fun g s => Rm (fl ρ) s fun xs s => Rm (g (x :: xs)) s Q) := ⟨Rm.meth⟩
instance {g : List D → M D} : RmStep (dCallS g f1 ρ) s Q (Rm (f1 ρ) s fun x s => Rm (M.lift (seqD x)) s fun xs s => Rm (g xs) s Q) := ⟨Rm.callS⟩
instance {a b : Int} : RmStep (M.lift (eqD (.int a) (.int b))) s Q (Q (.bl (decide (a = b))) s) := ⟨Rm.eqi⟩
end
section
variable {ρ : Sts} {s : FS} {Q : Fl × Sts → FS → Prop} {QV : EV × Sts → FS → Prop} {QL : List D × Sts → FS → Prop} {g g' : Sts → M (Fl × Sts)} {fv fv2 : Sts → M (EV × Sts)} {f : Env' → M D} {c : Env' → M Bool} {fl : Sts → M (List D × Sts)} {fn : Env' → M (List D)} {i : Nat} {d : D}
instance : RmStep (gSeq g g' ρ) s Q (Rm (g ρ) s fun p s => Rm (seqK g' p) s Q) := ⟨Rm.seq⟩
instance : RmStep (seqK g (.nx, ρ)) s Q (Rm (g ρ) s Q) := ⟨Rm.seqNx⟩
instance : RmStep (seqK g (.rt d, ρ)) s Q (Q (.rt d, ρ) s) := ⟨Rm.seqRt⟩
instance : RmStep (seqK g (.ct, ρ)) s Q (Q (.ct, ρ) s) := ⟨Rm.seqCt⟩
instance : RmStep (seqK g (.bk, ρ)) s Q (Q (.bk, ρ) s) := ⟨Rm.seqBk⟩
instance : RmStep (gNext ρ) s Q (Q (.nx, ρ) s) := ⟨Rm.next⟩
instance (priority := low) : RmStep (gSet i fv ρ) s Q (Rm (fv ρ) s fun p s => Q (.nx, p.2.set i p.1) s) := ⟨Rm.set⟩
instance : RmStep (gSet i (vMask f) ρ) s Q (Rm (f (mask ρ)) s fun x s => Q (.nx, ρ.set i (.d x)) s) := ⟨Rm.setM⟩
instance : RmStep (gSet i (vView f) ρ) s Q (Rm (f (view ρ)) s fun x s => Rm (M.lift (scalD x)) s fun x s => Q (.nx, ρ.set i (.d x)) s) := ⟨Rm.setV⟩
instance : RmStep (gSet i (vNew fn) ρ) s Q (Rm (fn (mask ρ)) s fun x s => Q (.nx, ρ.set i (.ol x)) s) := ⟨Rm.setN⟩
instance : RmStep (gSet i (vViewT f) ρ) s Q (Rm (f (view ρ)) s fun x s => tupsB x = true ∧ Q (.nx, ρ.set i (.d x)) s) := ⟨Rm.setVT⟩
instance : RmStep (gDrop fv ρ) s Q (Rm (fv ρ) s fun p s => Q (.nx, p.2) s) := ⟨Rm.drop⟩
instance : RmStep (gIf c g g' ρ) s Q (Rm (c (view ρ)) s fun k s => Rm (if k = true then g ρ else g' ρ) s Q) := ⟨Rm.cond⟩
instance : RmStep (gRet f ρ) s Q (Rm (f (view ρ)) s fun x s => Q (.rt x, ρ) s) := ⟨Rm.ret⟩
instance : RmStep (gRetN ρ) s Q (Q (.rt .non, ρ) s) := ⟨Rm.retN⟩
instance : RmStep (gBreak ρ) s Q (Q (.bk, ρ) s) := ⟨Rm.brk⟩
instance : RmStep (gCont ρ) s Q (Q (.ct, ρ) s) := ⟨Rm.cont⟩
instance : RmStep (gFrz i g ρ) s Q (Rm (g (DL.frz i ρ)) s Q) := ⟨Rm.frz⟩
instance : RmStep (vMask f ρ) s QV (Rm (f (mask ρ)) s fun x s => QV (.d x, ρ) s) := ⟨Rm.vmask⟩
instance : RmStep (vView f ρ) s QV (Rm (f (view ρ)) s fun x s => Rm (M.lift (scalD x)) s fun x s => QV (.d x, ρ) s) := ⟨Rm.vview⟩
instance : RmStep (vNew fn ρ) s QV (Rm (fn (mask ρ)) s fun x s => QV (.ol x, ρ) s) := ⟨Rm.vnew⟩
instance : RmStep (vNewD ρ) s QV (QV (.od [], ρ) s) := ⟨Rm.vnewD⟩
instance : RmStep (vViewT f ρ) s QV (Rm (f (view ρ)) s fun x s => tupsB x = true ∧ QV (.d x, ρ) s) := ⟨Rm.vviewT⟩
instance : RmStep (vViewL fn ρ) s QV (Rm (fn (view ρ)) s fun xs s => tupsL xs = true ∧ QV (.d (.lst xs), ρ) s) := ⟨Rm.vviewL⟩
instance : RmStep (lvNil ρ) s QL (QL ([], ρ) s) := ⟨Rm.lvnil⟩
instance : RmStep (lvCons fv fl ρ) s QL (Rm (fv ρ) s fun p s => Rm (Rm.lvK fl p) s QL) := ⟨Rm.lvcons⟩
instance {x : D} : RmStep (Rm.lvK fl (.d x, ρ)) s QL (Rm (fl ρ) s fun q s => QL (x :: q.1, q.2) s) := ⟨Rm.lvk⟩
instance {b : D → Option Asg} : RmStep (gAsgT b fv ρ) s Q (Rm (fv ρ) s fun p s => Rm (Rm.asgK b p) s Q) := ⟨Rm.asgT⟩
instance {b : D → Option Asg} {x : D} : RmStep (Rm.asgK b (.d x, ρ)) s Q (Rm (M.lift (b x)) s fun as s => Q (.nx, setS as ρ) s) := ⟨Rm.asgk⟩
instance {it : Env' → M (List D)} {b : D → Option Asg} : RmStep (gFor it b g ρ) s Q (Rm (it (mask ρ)) s fun xs s => Rm (forS b g xs ρ) s Q) := ⟨Rm.for_⟩
instance : RmStep (gStD i fv fv2 ρ) s Q (Rm (fv ρ) s fun p s => Rm (Rm.stdK i fv2 p) s Q) := ⟨Rm.stD⟩
instance {Q : D → FS → Prop} : RmStep (runK (.nx, ρ)) s Q (Q .non s) := ⟨Rm.runNx⟩
instance {Q : D → FS → Prop} : RmStep (runK (.rt d, ρ)) s Q (Q d s) := ⟨Rm.runRt⟩
instance {cl f : Str} : RmStep (gFld i cl f fv ρ) s Q (Rm (fv ρ) s fun p s => Rm (fldK i cl f p) s Q) := ⟨Rm.fld⟩
instance {cl : Str} {fns : List Str} : RmStep (gFlds i cl fns fl ρ) s Q (Rm (fl ρ) s fun p s => Rm (fldsK i cl fns p) s Q) := ⟨Rm.flds⟩
end
end DL

set_option Elab.async false
set_option linter.all false
set_option maxRecDepth 100000
set_option maxHeartbeats 4000000
/-! The data layer: while; dict displays; dict(a list of pairs); extend; *range. -/
namespace DL
open PySem PySem.Spec PyProof.Rows L2

/-! ### while -/
def gWhile (c : Env' → M Bool) (g : Sts → M (Fl × Sts)) : Nat → Sts → M (Fl × Sts)
  | 0 => fun _ => M.bad
  | n + 1 => fun ρ => (c (view ρ)).bind fun k => if k = true then (g ρ).bind fun p => match p.1 with
      | .nx => gWhile c g n p.2
      | .ct => gWhile c g n p.2
      | .bk => M.pure (.nx, p.2)
      | .rt d => M.pure (.rt d, p.2)
    else M.pure (.nx, ρ)
section
variable {X : Cx} {fa : Option FA} {W : XK} {c : Expr} {body : List Stmt} {pos : Pos} {c1 : Env' → M Bool} {g : Sts → M (Fl × Sts)}
theorem sj_while (n : Nat) (hp : PassesOwn (model X.prog X.w) X.A X.env X.xe) (hc : TD X fa (fun _ => W) c c1) (hb : SSJ X fa W body g) : SJ X fa W (.While c body [] pos) (gWhile c1 g n) := by
  obtain ⟨tc, pc, kc⟩ := hc
  obtain ⟨tb, pb, kb⟩ := hb
  refine ⟨_, ps_while hp pc pb, fun B F0 H0 F H A σ ρ s Dn S hg => ?_⟩
  refine ⟨fun m σ' H' => ∃ F' A' ρ' s', SOk X.K fa B F0 H0 F' H' A' σ' ρ' s' ∧ GoodS X fa W B F0 H0 (gWhile c1 g m ρ' s') Dn, ⟨n, F, A, ρ, s, S, hg⟩, ?_⟩
  rintro m σ' H' ⟨F', A', ρ', s', S', q⟩
  cases m with
  | zero => exact q.elim
  | succ m =>
    obtain ⟨ff, fh, fo0, ex0⟩ := S'.fp
    have S0 : SOk X.K fa B F0 H0 F' H' A' (σ' ++ []) (ρ' ++ []) s' := by rw [app0, app0]; exact S'
    have en := S0.view S'.len
    rw [app0] at en
    refine kc σ' (Fp F' H' A' ρ') H' (view ρ') s' _ fh fo0 en ?_
    change GoodS X fa W B F0 H0 ((c1 (view ρ') s').bnd _) Dn at q
    generalize c1 (view ρ') s' = r at q
    cases r with
    | bad => exact q
    | err e s2 => exact fun cls dd F2 H2 e2 fo rx => q cls dd F2 H2 (ex0.trans e2) fo rx
    | ok k s2 =>
      intro F2 H2 e2 fo
      have S1 := S'.back e2 fo
      cases k with
      | false => exact iteF (q σ' F' H2 A' S1)
      | true =>
        refine iteT ⟨fun σ5 H5 => ∃ F5 A5 ρ5 s5, SOk X.K fa B F0 H0 F5 H5 A5 σ5 ρ5 s5 ∧ GoodS X fa W B F0 H0 (gWhile c1 g m ρ5 s5) Dn, fun σ5 H5 h5 => ⟨m, Nat.lt_succ_self m, h5⟩, ?_⟩
        refine kb B F0 H0 F' H2 A' σ' ρ' s2 _ S1 ?_
        change GoodS X fa W B F0 H0 ((g ρ' s2).bnd _) Dn at q
        generalize g ρ' s2 = rr at q
        cases rr with
        | bad => exact q
        | err e s3 => exact q
        | ok p s3 =>
          obtain ⟨fl, ρ5⟩ := p
          cases fl with
          | nx => exact fun σ5 F5 H5 A5 S5 => ⟨F5, A5, ρ5, s3, S5, q⟩
          | ct => exact fun σ5 F5 H5 A5 S5 => ⟨F5, A5, ρ5, s3, S5, q⟩
          | bk => exact q
          | rt d => exact q
end
/-- a while: what holds ahead of each pass -/
theorem Rm.while_ {c : Env' → M Bool} {g : Sts → M (Fl × Sts)} {Q : Fl × Sts → FS → Prop} (I : Nat → Sts → FS → Prop)
    (h1 : ∀ n ρ s, I n ρ s → Rm (c (view ρ)) s fun k s => if k = true then ∃ m, n = m + 1 ∧ Rm (g ρ) s fun p s => match p.1 with
      | .nx => I m p.2 s
      | .ct => I m p.2 s
      | .bk => Q (.nx, p.2) s
      | .rt d => Q (.rt d, p.2) s else Q (.nx, ρ) s) : ∀ {n : Nat} {ρ : Sts} {s : FS}, I n ρ s → Rm (gWhile c g (n + 1) ρ) s Q := by
  intro n
  induction n with
  | zero =>
    intro ρ s h
    refine Rm.bind ((h1 0 ρ s h).mono fun k s h => ?_)
    cases k with
    | false => exact ⟨h⟩
    | true =>
      obtain ⟨m, e, _⟩ := h
      cases e
  | succ n ih =>
    intro ρ s h
    refine Rm.bind ((h1 _ ρ s h).mono fun k s h => ?_)
    cases k with
    | false => exact ⟨h⟩
    | true =>
      obtain ⟨m, e, h⟩ := h
      cases e
      refine Rm.bind (h.mono fun p s h => ?_)
      obtain ⟨fl, ρ'⟩ := p
      cases fl with
      | nx => exact ih h
      | ct => exact ih h
      | bk => exact ⟨h⟩
      | rt d => exact ⟨h⟩

end DL

set_option Elab.async false
set_option linter.all false
set_option maxRecDepth 100000
set_option maxHeartbeats 1000000
namespace DL
open PySem PySem.Spec PyProof.Rows L2
/-! ### dicts of pairs -/
def mergeD (xs more : List (Key × D)) : List (Key × D) := more.foldl (fun acc kv => putD acc kv.1 kv.2) xs
theorem mergeD_rep {K : PySem.W.Frag} {fa : Option FA} {F : Hp} : ∀ {more : List (Key × D)} {vm : List (Key × V)}, RepK K fa F more vm → ∀ {xs : List (Key × D)} {vs : List (Key × V)}, RepK K fa F xs vs → RepK K fa F (mergeD xs more) (mergeK vs vm)
  | _, _, .nil, _, _, h => h
  | _, _, .cons r t, _, _, h => mergeD_rep t (putK_eq _ r h)
def GoodP (X : Cx) (fa : Option FA) (W : XK) (F H : Hp) (r : Res (List (Key × D))) (Q : List (V × V) → Hp → Prop) : Prop :=
  match r with
  | .bad => False
  | .ok xs s' => ∀ vs F' H', Ext fa F H F' H' → FeedOk X.K fa F' H' s' → RepK X.K fa F' xs vs → Q (vs.map fun kv => (kV kv.1, kv.2)) H'
  | .err e s' => ∀ cls dd F' H', Ext fa F H F' H' → FeedOk X.K fa F' H' s' → RepX X.K X.mg fa F' H' e cls dd → W cls dd H'
def pNil : Env' → M (List (Key × D)) := fun _ => M.pure []
def pCons (x : Str) (f : Env' → M D) (fs : Env' → M (List (Key × D))) : Env' → M (List (Key × D)) := fun ρ => (f ρ).bind fun y => (fs ρ).bind fun ys => M.pure ((.inr x, y) :: ys)
/-- the pairs of a display -/
def PPJ (X : Cx) (fa : Option FA) (W : L2.St → XK) (pos : Pos) (keys : List (Option Expr)) (values : List Expr) (f : Env' → M (List (Key × D))) : Prop :=
  ∃ trs, PPs X pos keys values trs ∧ ∀ (σ : L2.St) (F H : Hp) (ρ : Env') (s : FS) (Q : List (V × V) → Hp → Prop), Same F H → FeedOk X.K fa F H s → EnvOk X.K fa F σ ρ → GoodP X fa (W σ) F H (f ρ s) Q → tPairs trs σ H Q
def dDisp (f : Env' → M (List (Key × D))) : Env' → M (List (Key × D)) := fun ρ => (f ρ).bind fun xs => if xs.length ≤ 15 then M.pure (mergeD [] xs) else M.bad
section
variable {X : Cx} {fa : Option FA} {W : L2.St → XK} {e : Expr} {pos kp : Pos} {j : Nat} {x : Str} {keys : List (Option Expr)} {values : List Expr} {f1 : Env' → M D} {f : Env' → M (List (Key × D))}
theorem GoodP.tgt {W : XK} {Q : List (V × V) → Hp → Prop} : Tgt X fa W (fun F H (r : Res (List (Key × D))) => GoodP X fa W F H r Q) := by
  refine ⟨fun _ _ h => h, fun _ _ _ _ h => h, fun F H F' H' r e h => ?_⟩
  cases r with
  | bad => exact h
  | ok d s => exact fun v F2 H2 e2 => h v F2 H2 (e.trans e2)
  | err x s => exact fun c dd F2 H2 e2 => h c dd F2 H2 (e.trans e2)
theorem ppj_nil : PPJ X fa W pos [] [] pNil := ⟨_, pps_nil, fun σ F H ρ s Q h1 h2 h3 h => h [] F H (Ext.refl h1) h2 .nil⟩
theorem ppj_cons (ha : ED X fa W e f1) (hr : PPJ X fa W pos keys values f) : PPJ X fa W pos (some (.Constant (.str x) j kp) :: keys) (e :: values) (pCons x f1 f) := by
  obtain ⟨ta, pa, ka⟩ := ha
  obtain ⟨tr, pr, kr⟩ := hr
  refine ⟨_, pps_cons pe_str pa pr, fun σ F H ρ s Q h1 h2 h3 h => ?_⟩
  refine ka.then GoodP.tgt h1 h2 h3 h fun y s1 v F1 H1 e1 o1 r1 v1 h' => ?_
  refine kr σ F1 H1 ρ s1 _ e1.fh o1 v1 ?_
  change GoodP X fa (W σ) F1 H1 ((f ρ s1).bnd _) Q at h'
  generalize f ρ s1 = r at h'
  cases r with
  | bad => exact h'
  | err e s' => exact h'
  | ok ys s' => exact fun vs F' H' ex fo rk => h' ((.inr x, v) :: vs) F' H' ex fo (.cons (r1.mono ex.ff) rk)
/-- {k: e, ..}, new -/
theorem dn_disp (h : PPJ X fa W pos keys values f) (hall : keys.all (·.isSome) = true := by rfl) (hl : keys.length = values.length := by rfl) (h0 : keys ≠ [] := by simp) (h15 : keys.length ≤ 15 := by decide) :
    ∃ t, PE X (.Dict keys values pos) t ∧ DNOk X fa W t (dDisp f) := by
  obtain ⟨tr, pr, kr⟩ := h
  refine ⟨_, pe_disp pr hall hl h0 h15, fun σ F H ρ s Q h1 h2 h3 hg p hp => ?_⟩
  have fp : F p = none := Same.free h1 hp
  have ex : Ext fa F H F (upd H p (.dK [])) := ⟨Same.refl _, fun b u z => by rw [upd_ne (ne_of_none z fp)]; exact h1 b u z, fun b u z _ => by rw [upd_ne (ne_of_none z hp)]; exact z, fun _ _ => rfl, fun b z => by
    have : b ≠ p := fun q => z (q ▸ hp)
    rw [upd_ne this]; exact z⟩
  have fo1 := h2.ext_same (Same.refl _) (fun b u z => by rw [upd_ne (ne_of_none z hp)]; exact z : ∀ b u, H b = some u → upd H p (.dK []) b = some u) fun _ _ => rfl
  refine kr σ F (upd H p (.dK [])) ρ s _ ex.fh fo1 h3 ?_
  change GoodDn X fa (W σ) F H ((f ρ s).bnd _) Q at hg
  generalize f ρ s = r at hg
  cases r with
  | bad => exact hg
  | err e s' => exact fun cls dd F' H' e fo rx => hg cls dd F' H' (ex.trans e) fo rx
  | ok xs s' =>
    intro vs F' H' e fo r
    have nf : Nfa fa p := nfa_fresh h2 hp
    have hp' : H' p = some (.dK []) := e.hh p _ upd_same nf
    change GoodDn X fa (W σ) F H ((if xs.length ≤ 15 then M.pure (mergeD [] xs) else M.bad) s') Q at hg
    by_cases hx : xs.length ≤ 15
    · rw [if_pos hx] at hg
      have fp' : F' p = none := (e.fr p (by rw [upd_same]; simp)).trans fp
      refine ⟨hp', vs, rfl, by rw [← repK_len r]; exact hx, ?_⟩
      have e3 := ex.trans e
      refine hg p (mergeK [] vs) F' (upd H' p (.dK (mergeK [] vs))) ⟨e3.ff, fun b u z => ?_, fun b u z n => ?_, e3.fr, fun b z => ?_⟩ (fun φ z => ?_) hp fp' upd_same (mergeD_rep r .nil)
      · rw [upd_ne (ne_of_none z fp')]; exact e3.fh b u z
      · rw [upd_ne (ne_of_none z hp)]; exact e3.hh b u z n
      · have : b ≠ p := fun q => z (q ▸ hp)
        rw [upd_ne this]; exact e3.al b z
      · obtain ⟨g1, g2, g3, g4⟩ := fo φ z
        exact ⟨g1, g2, ⟨by rw [upd_ne (nf φ z).1]; exact g3.1, g3.2.upd hp' (noTab_dK _)⟩, g4⟩
    · rw [if_neg hx] at hg
      exact hg.elim
theorem ed_disp (h : PPJ X fa W pos keys values f) (hall : keys.all (·.isSome) = true := by rfl) (hl : keys.length = values.length := by rfl) (h0 : keys ≠ [] := by simp) (h15 : keys.length ≤ 15 := by decide) :
    ED X fa W (.Dict keys values pos) (fun ρ => (dDisp f ρ).bind fun xs => M.pure (.dic xs)) := by
  obtain ⟨t, p, k⟩ := dn_disp h hall hl h0 h15
  exact ⟨t, p, k.tok⟩
end

end DL

set_option Elab.async false
set_option linter.all false
set_option maxRecDepth 100000
set_option maxHeartbeats 1000000
namespace DL
open PySem PySem.Spec PyProof.Rows L2
/-! ### dict(x) -/
def pair1 : D → Option (Key × D)
  | .tup xs => match xs with
    | [k, x] => (keyD k).map fun k => (k, x)
    | _ => none
  | _ => none
def pairsD : List D → Option (List (Key × D))
  | [] => some []
  | x :: r => (pair1 x).bind fun p => (pairsD r).map fun q => p :: q
def dictN : List D → Option (List (Key × D))
  | [.dic kvs] => some kvs
  | [.lst xs] => (pairsD xs).map (mergeD [])
  | _ => none
theorem pair1_rep {K : PySem.W.Frag} {fa : Option FA} {F H : Hp} (h1 : Same F H) {x : D} {v : V} {p : Key × D} (e : pair1 x = some p) (r : Rep K fa F x v) : ∃ a y, v = .ref a ∧ SqT K H a [kV p.1, y] ∧ Rep K fa F p.2 y := by
  cases r with
  | tup hs rl =>
    cases rl with
    | nil => cases e
    | cons rk rl =>
      cases rl with
      | nil => cases e
      | cons ry rl =>
        cases rl with
        | cons _ _ => cases e
        | nil =>
          rename_i a k vk y vy
          have e' : ((keyD k).map fun k => (k, y)) = some p := e
          cases hk : keyD k with
          | none => rw [hk] at e'; cases e'
          | some kk =>
            rw [hk] at e'
            cases e'
            rw [key_rep hk rk] at hs
            exact ⟨_, _, rfl, same_seqT h1 hs, ry⟩
  | _ => cases e
theorem pairsD_rep {K : PySem.W.Frag} {fa : Option FA} {F H : Hp} (h1 : Same F H) : ∀ {xs : List D} {vs : List V}, RepL K fa F xs vs → ∀ {kvs : List (Key × D)}, pairsD xs = some kvs → ∃ (ps : List Addr) (vk : List (Key × V)), vs = ps.map V.ref ∧ Paired (fun p kv => SqT K H p [kV kv.1, kv.2]) ps vk ∧ RepK K fa F kvs vk
  | _, _, .nil, _, e => by
    cases e
    exact ⟨[], [], rfl, .nil, .nil⟩
  | _, _, .cons (d := x) (ds := xs) rx rt, kvs, e => by
    have e' : ((pair1 x).bind fun p => (pairsD xs).map fun q => p :: q) = some kvs := e
    cases hx : pair1 x with
    | none => rw [hx] at e'; cases e'
    | some p =>
      rw [hx] at e'
      change ((pairsD xs).map fun q => p :: q) = some kvs at e'
      cases hp : pairsD xs with
      | none => rw [hp] at e'; cases e'
      | some kv2 =>
        rw [hp] at e'
        cases e'
        obtain ⟨a, y, rfl, hs, ry⟩ := pair1_rep h1 hx rx
        obtain ⟨ps, vk, rfl, pr, rk2⟩ := pairsD_rep h1 rt hp
        exact ⟨a :: ps, (p.1, y) :: vk, rfl, .cons hs pr, .cons ry rk2⟩
end DL

set_option Elab.async false
set_option linter.all false
set_option maxRecDepth 100000
set_option maxHeartbeats 1000000
namespace DL
open PySem PySem.Spec PyProof.Rows L2
/-! ### *range -/
section
variable {X : Cx} {fa : Option FA} {W : L2.St → XK} {a b e : Expr} {es : List Expr} {p sp_ pos : Pos} {f1 f2 : Env' → M D} {fl : Env' → M (List D)}
theorem pa_starRg {te : L2.St → Hp → (Int → Int → Hp → Prop) → Prop} {t : TA} (hc : X.calm = true) (he : PRg X e te) (hr : PA X es t) (hs : starEach (.Starred e p :: es) X.env = (true, eval e X.env) :: starEach es X.env := by rfl) :
    PA X (.Starred e p :: es) (fun σ H Q => te σ H fun a b H1 => RgOk a b ∧ t σ H1 fun ys H2 => Q (rgV a b ++ ys) H2) := by
  refine ⟨fun pos pins s σ H Q I h => ?_⟩
  refine PySem.W.items_star (thn (he pins s σ H _ I h) fun v s1 ⟨r, a, b, t', u, w', H1, ev, hr', I1, ok, q⟩ => ?_) hs
  subst ev
  obtain ⟨b1, b2, b3, b4, b5⟩ := ok
  have hT : s1.TypeIs (.ref r) "range" := ⟨_, hr', rfl⟩
  have z := collect_range (prog := X.prog) (w := X.w) (A := X.A) (E := X.xe) (n := (b - a).toNat) (Q := fun here s₂ => wpAny (model X.prog X.w) X.A (spliced (backTo pos (starEach es X.env))) (fun vs s₃ => AP X pins σ Q (here ++ vs) s₃) X.xe s₂) (I1.ok.hd hc) hr' (small_one b1 b2 b3 b4) (rangeSize_nat a b) b5 fun h' tk acc hk hi => by
    have I2 : Inv X pins σ H1 { s1 with heap := h', toks := tk } := I1.kept hk
    exact thn (hr.run pos pins _ σ H1 _ I2 q) fun ws s3 ⟨vs, H3, I3, r3, q3⟩ => ⟨rgV a b ++ vs, H3, I3, (vals_rg hi).append r3, q3⟩
  unfold PySem.W.StarOf notIterableAtAll
  exact wpAny_bind (wpAny_specialOf hT PySem.F.slot_range_iter.lookup (wpAny_pure ⟨rfl, z⟩))
end
end DL

set_option Elab.async false
set_option linter.all false
set_option maxRecDepth 100000
set_option maxHeartbeats 1000000
namespace DL
open PySem PySem.Spec PyProof.Rows L2
section
variable {X : Cx} {fa : Option FA} {W : L2.St → XK} {e : Expr} {p pos : Pos} {fl : Env' → M (List D)} {x : Str}
theorem dn_dict (hc : X.calm = true) (hm : X.mg x = none) (ha : LD X fa W [e] fl) (hv : bootBuiltins x = some (.type "dict") := by decide +kernel) (hg : Gl X x := by rfl) (hn : x ≠ "__name__" := by decide) (hdb : (x == ("__debug__" : Str)) = false := by decide)
    (he : starEach [e] X.env = (false, eval e X.env) :: starEach [] X.env := by rfl) (hpl : (backTo pos (starEach [] X.env)).any (·.1) = false := by rfl) :
    ∃ t, PE X (.Call (.Name x p) [e] [] pos) t ∧ DNOk X fa W t (fun ρ => (fl ρ).bind fun xs => M.lift (dictN xs)) := by
  obtain ⟨ta, pa, ka⟩ := ha
  refine ⟨_, pe_callTy (CallR.or call_dictD (call_dictP hc)) hg hm hv pa hn hdb he hpl, fun σ F H ρ s Q h1 h2 h3 hg => ?_⟩
  refine ka σ F H ρ s _ h1 h2 h3 ?_
  change GoodDn X fa (W σ) F H ((fl ρ s).bnd _) Q at hg
  generalize fl ρ s = r at hg
  cases r with
  | bad => exact hg
  | err e s' => exact hg
  | ok xs s' =>
    intro vs F1 H1 e1 o1 rl
    change GoodDn X fa (W σ) F H ((M.lift (dictN xs)) s') Q at hg
    have fin : ∀ (kvs : List (Key × D)) (vk : List (Key × V)), dictN xs = some kvs → RepK X.K fa F1 kvs vk → ∀ q, H1 q = none → Q (.ref q) (upd H1 q (.dK vk)) := fun kvs vk hd rk q hq => by
      rw [hd] at hg
      have fq : F1 q = none := Same.free e1.fh hq
      have hq0 : H q = none := by
        cases z : H q with
        | none => rfl
        | some u => exact absurd hq (e1.al q (by rw [z]; simp))
      refine hg q vk F1 (upd H1 q (.dK vk)) ⟨e1.ff, fun b u z => ?_, fun b u z n => ?_, e1.fr, fun b z => ?_⟩ (fun φ z => ?_) hq0 fq upd_same rk
      · rw [upd_ne (ne_of_none z fq)]; exact e1.fh b u z
      · rw [upd_ne (ne_of_none (e1.hh b u z n) hq)]; exact e1.hh b u z n
      · have : b ≠ q := fun w => e1.al b z (w ▸ hq)
        rw [upd_ne this]; exact e1.al b z
      · obtain ⟨g1, g2, g3, g4⟩ := o1 φ z
        exact ⟨g1, g2, ⟨by rw [upd_ne (ne_of_none g3.1 hq)]; exact g3.1, g3.2.updN hq⟩, g4⟩
    cases rl with
    | nil => exact hg.elim
    | cons r t =>
      cases t with
      | cons _ _ => cases r <;> exact hg.elim
      | nil =>
        cases r with
        | dic hr rk => exact .inl ⟨_, _, rfl, same_rd e1.fh hr, fin _ _ rfl rk⟩
        | lst hl rl =>
          rename_i a ys ws
          cases hp : pairsD ys with
          | none =>
            rw [show dictN [.lst ys] = none by show (pairsD ys).map _ = none; rw [hp]; rfl] at hg
            exact hg.elim
          | some kvs =>
            obtain ⟨ps, vk, rfl, pr, rk⟩ := pairsD_rep e1.fh rl hp
            exact .inr ⟨a, ps, vk, rfl, SqL.of (e1.fh _ _ hl), pr, fin (mergeD [] kvs) (mergeK [] vk) (by show (pairsD ys).map _ = _; rw [hp]; rfl) (mergeD_rep rk .nil)⟩
        | _ => exact hg.elim
theorem vj_dictN {W : XK} (hc : X.calm = true) (hm : X.mg x = none) (ha : LD X fa (fun _ => W) [e] fl) (hv : bootBuiltins x = some (.type "dict") := by decide +kernel) (hg : Gl X x := by rfl) (hn : x ≠ "__name__" := by decide) (hdb : (x == ("__debug__" : Str)) = false := by decide)
    (he : starEach [e] X.env = (false, eval e X.env) :: starEach [] X.env := by rfl) (hpl : (backTo pos (starEach [] X.env)).any (·.1) = false := by rfl) :
    VJ X fa W (.Call (.Name x p) [e] [] pos) (vNewDc fun ρ => (fl ρ).bind fun xs => M.lift (dictN xs)) := by
  obtain ⟨t, p, k⟩ := dn_dict hc hm ha hv hg hn hdb he hpl
  exact ⟨t, p, vok_newDc k⟩
theorem ed_dictN (hc : X.calm = true) (hm : X.mg x = none) (ha : LD X fa W [e] fl) (hv : bootBuiltins x = some (.type "dict") := by decide +kernel) (hg : Gl X x := by rfl) (hn : x ≠ "__name__" := by decide) (hdb : (x == ("__debug__" : Str)) = false := by decide)
    (he : starEach [e] X.env = (false, eval e X.env) :: starEach [] X.env := by rfl) (hpl : (backTo pos (starEach [] X.env)).any (·.1) = false := by rfl) :
    ED X fa W (.Call (.Name x p) [e] [] pos) (fun ρ => ((fl ρ).bind fun xs => M.lift (dictN xs)).bind fun xs => M.pure (.dic xs)) := by
  obtain ⟨t, p, k⟩ := dn_dict hc hm ha hv hg hn hdb he hpl
  exact ⟨t, p, k.tok⟩
end

end DL

set_option Elab.async false
set_option linter.all false
set_option maxRecDepth 100000
set_option maxHeartbeats 4000000
/-! set(a list) of one kind of keys. -/
namespace SG
open PySem PySem.Spec PyProof.Rows L2
section
variable {P : Program} {w : World} {κ : Type} [DecidableEq κ] {kk : KK P w κ} {A : Around} {E : Value → Shared → Prop} {s : Shared}
theorem vals_at : ∀ {xs : List V} {us : List Value} {i : Nat} {u : Value}, Vals xs us → us[i]? = some u → ∃ x, xs[i]? = some x ∧ RelV x u
  | _, _, i, _, .nil, h => by simp at h
  | _, _, 0, _, .cons r _, h => by simp at h; subst h; exact ⟨_, rfl, r⟩
  | _, _, i + 1, u, .cons _ t, h => by
    obtain ⟨x, e, r⟩ := vals_at (i := i) (u := u) t (by simpa using h)
    exact ⟨x, by simpa using e, r⟩
/-- set.update's loop -/
theorem set_update_G {I : Addr} {fp wr : List Addr} {G : Array GenState → Array GenState → Prop} {n : Nat} {Pv : Nat → Value → Prop} {St : Nat → Shared → Prop} {R : Result → Shared → Prop}
    (W : WalksS P w A.in1 I fp wr G n Pv St) (S : Addr) (hSf : S ∉ fp) (ks : List κ) (hn : n = ks.length) (hfew : ks.length < 4000) (hval : ∀ i v, Pv i v → ∃ k, ks[i]? = some k ∧ RelV (kk.emb k) v)
    (h0 : Heap) (hS0 : h0.get? S = none) (hw0 : ∀ b ∈ wr, h0.get? b = none) :
    ∀ (k i : Nat) (s : Shared) (T : κ → Bool) (m : Nat), n - i = k → i ≤ n → St i s → (∀ b o, h0.get? b = some o → s.heap.get? b = some o) → SetG kk s.heap S T m → m ≤ i → (∀ x, T x = true ↔ x ∈ ks.take i) →
      (∀ s' T m, Moved (S :: wr) G s s' → SetG kk s'.heap S T m → (∀ x, T x = true ↔ x ∈ ks) → (∀ b o, h0.get? b = some o → s'.heap.get? b = some o) → R (.ok (.ret .none)) s') →
      codeAny (model P w) A (.builtin "set.update.loop" ⟨[.ref S, .ref I], []⟩) R s := by
  have hSw : S ∉ wr := fun h => hSf (W.sub _ h)
  have hsub : ∀ b ∈ wr, b ∈ S :: wr := fun b hb => List.mem_cons_of_mem _ hb
  have keepM : ∀ {s s' : Shared}, Moved wr G s s' → (∀ b o, h0.get? b = some o → s.heap.get? b = some o) → ∀ b o, h0.get? b = some o → s'.heap.get? b = some o := fun hm hkp b o e =>
    hm.heap b o (fun hb => by rw [hw0 b hb] at e; cases e) (hkp b o e)
  intro k
  induction k with
  | zero =>
    intro i s T m hk' hi hst hkp hS hmi hT hR
    have hin : i = n := by omega
    subst hin
    refine codeAny_builtin F.entry_set_update_loop ?_
    rw [Around.under_plainId F.plain_set_update_loop _]
    show wpAny _ A.in1 (pyNext (.ref I) >>= _) _ _ s
    refine wpAny_bind (W.done s _ _ hst fun s' hm => ?_)
    show wpAny _ A.in1 (ret Value.none) _ _ s'
    have hkp' := keepM hm hkp
    exact wpAny_pure (hR s' T m (hm.mono hsub) (hS.at fun o e => hm.heap S o hSw e) (fun x => by rw [hT x, hn, List.take_length]) hkp')
  | succ k ih =>
    intro i s T m hk' hi hst hkp hS hmi hT hR
    have hlt : i < n := by omega
    refine codeAny_builtin F.entry_set_update_loop ?_
    rw [Around.under_plainId F.plain_set_update_loop _]
    show wpAny _ A.in1 (pyNext (.ref I) >>= _) _ _ s
    refine wpAny_bind (W.item i s _ _ hlt hst fun v s' hP hst' hm => ?_)
    obtain ⟨x, hx, rv⟩ := hval i v hP
    obtain ⟨hk1, hsc⟩ := kk.of_rel rv
    have hkp' := keepM hm hkp
    have hS' : SetG kk s'.heap S T m := hS.at fun o e => hm.heap S o hSw e
    show wpAny _ A.in1 (holding [v] (setAdd S v) >>= _) _ _ s'
    refine wpAny_bind (wpAny_holding ?_)
    unfold setAdd
    refine wpAny_holding ?_
    refine wpAny_bind (kk.knd.pyHash hk1 ?_)
    have hb : scanBound = 4096 := rfl
    refine add_hashed (s := { s' with toks := s'.toks + 1 }) ⟨hk1, hsc⟩ hS' (by omega) fun h' hsb hS2 => ?_
    have hkp2 : ∀ b o, h0.get? b = some o → h'.get? b = some o := fun b o e => (hsb.2 b (fun z => by rw [z, hS0] at e; cases e)).trans (hkp' b o e)
    have hT' : ∀ y, (T y || decide (y = x)) = true ↔ y ∈ ks.take (i + 1) := fun y => by
      rw [L2.take_next hx, List.mem_append, List.mem_singleton, Bool.or_eq_true, decide_eq_true_eq, hT y]
    refine wpAny_pure ⟨plainId_quiet F.plain_set_update_loop _, ih (i + 1) _ _ _ (by omega) hlt (W.frame _ s' _ _ hst' (Nat.le_add_right _ _) fun b hb o e => ?_) hkp2 hS2 (by split <;> omega) hT' fun s'' T2 m2 hm'' hS'' hT'' hkp'' => ?_⟩
    · rw [hsb.2 b (fun h : b = S => hSf (by rw [← h]; exact hb))]; exact e
    · refine hR s'' T2 m2 (Moved.trans W.gtrans ((hm.mono hsub).then_heap (Nat.le_add_right _ _) fun b o hb e => ?_) hm'') hS'' hT'' hkp''
      rw [hsb.2 b (fun h : b = S => hb (by rw [h]; exact List.mem_cons_self))]; exact e
set_option maxHeartbeats 6400000 in
/-- set(xs) -/
theorem call_set_G {l : Addr} {items : Array Value} (ks : List κ) {Q : Value → Shared → Prop} (hh : A.handled = none) (hl : s.heap.IsList l items) (hit : Vals (ks.map kk.emb) items.toList) (hfew : ks.length < 4000)
    (h : ∀ (h' : Heap) (tk : Nat) T m, SetG kk h' s.heap.objs.size T m → (∀ x, T x = true ↔ x ∈ ks) → (∀ b o, s.heap.get? b = some o → h'.get? b = some o) → Q (.ref s.heap.objs.size) { s with heap := h', toks := tk }) :
    wpAny (model P w) A (call (.type "set") [.ref l]) Q E s := by
  have hisz : items.size = ks.length := by
    have q := hit.length
    have q2 : (ks.map kk.emb).length = items.toList.length := q
    simpa using q2.symm
  obtain ⟨c, tl, hmro⟩ := F.called_set.mro
  have hmade := F.called_set.made
  have hsub := F.called_set.sub
  refine wpAny_call (codeAny_of_tree ?_)
  show wpAny _ _ (callAny (.type "set") _) _ _ _
  refine wpAny_pure ⟨Code.quiet_builtin _ (by decide +kernel), codeAny_builtin F.entry_type_call ?_⟩
  rw [Around.under_plain (weight_type_call_type "set" [.ref l] []) rfl]
  have h1 := F.called_set.notType
  have h2 := F.called_set.canCreate
  have hct := F.typeCall_set_1 (.ref l)
  repeat (any_goals (first | assumption | wp_step))

  refine codeAny_mono (code_set_led1 (.ref l) (E := E) (Q₁ := fun obj s₁ => obj = .ref s.heap.objs.size ∧ s₁ = { s with heap := s.heap.push { cls := .type "set", dict := none, data := .set #[] 0 (.fresh 0 0 (!w.params.followText "set-order")) } }) ⟨rfl, rfl⟩) fun r s₁ hr => ?_
  cases r with
  | error e => exact hr
  | ok fl =>
    cases fl with
    | ret obj =>
      obtain ⟨rfl, rfl⟩ := hr
      have hS : (s.heap.push { cls := .type "set", dict := none, data := .set #[] 0 (.fresh 0 0 (!w.params.followText "set-order")) }).get? s.heap.objs.size = some { cls := .type "set", dict := none, data := .set #[] 0 (.fresh 0 0 (!w.params.followText "set-order")) } := Heap.get?_push_size _ rfl
      have hT : Shared.TypeIs { s with heap := s.heap.push { cls := .type "set", dict := none, data := .set #[] 0 (.fresh 0 0 (!w.params.followText "set-order")) } } (.ref s.heap.objs.size) "set" := ⟨_, hS, rfl⟩
      have hli := F.called_set.init.lookup
      have hbi := F.called_set.init.bind (.ref s.heap.objs.size)
      repeat (any_goals (first | assumption | wp_step))

      refine codeAny_mono (codeAny_call_builtin (R := wants (fun r s₂ => r = .none ∧ ∃ h' tk T m, s₂ = { s with heap := h', toks := tk } ∧ SetG kk h' s.heap.objs.size T m ∧ (∀ x, T x = true ↔ x ∈ ks) ∧
          (∀ b o, s.heap.get? b = some o → h'.get? b = some o)) E) F.called_set.init.plain F.entry_set_init (check_set_init_1 hT ?_)) fun r₂ s₂ hr₂ => ?_
      · obtain ⟨ol, hol, hcl, nl, hdl⟩ := hl
        obtain ⟨ocls, odict, odata, oslots⟩ := ol
        simp only at hcl hdl
        subst hcl; subst hdl
        have hol' : (s.heap.push { cls := .type "set", dict := none, data := .set #[] 0 (.fresh 0 0 (!w.params.followText "set-order")) }).get? l = some { cls := .type "list", dict := odict, data := .seq items nl, slots := oslots } := Heap.get?_push_of_some _ hol
        have hsls := F.sub_list_set
        have hslf := F.sub_list_frozenset
        have hne : (Value.type "list" == Value.type "dict") = false := by decide
        have hl1 : (s.heap.push { cls := .type "set", dict := none, data := .set #[] 0 (.fresh 0 0 (!w.params.followText "set-order")) }).IsList l items := ⟨_, hol', rfl, nl, rfl⟩
        unfold Builtin.«set.__init__» noKeywords Builtin.Frozenset.updateFrom
        generalize hPI : pyIter = PI
        wp_walk
        subst hPI

        refine wpAny_pyIter_list hl1 ?_
        refine wpAny_bind (wpAny_runValue ?_)
        have hlS : l < s.heap.objs.size := Heap.lt_size hol
        have hh3 : A.in1.in1.in1.handled = none := by simp [hh]
        have hneI : l ≠ (s.heap.push { cls := .type "set", dict := none, data := .set #[] 0 (.fresh 0 0 (!w.params.followText "set-order")) }).objs.size := by
          rw [Heap.size_push]; exact Nat.ne_of_lt (Nat.lt_succ_of_lt hlS)
        have hSf : s.heap.objs.size ∉ [(s.heap.push { cls := .type "set", dict := none, data := .set #[] 0 (.fresh 0 0 (!w.params.followText "set-order")) }).objs.size, l] := by
          rw [Heap.size_push]; simp only [List.mem_cons, List.mem_singleton, List.not_mem_nil, or_false, not_or]
          exact ⟨Nat.ne_of_lt (Nat.lt_succ_self _), Nat.ne_of_gt hlS⟩
        have hval : ∀ (i : Nat) (v : Value), items[i]? = some v → ∃ k, ks[i]? = some k ∧ RelV (kk.emb k) v := fun i v hv => by
          have q : items.toList[i]? = some v := by rw [Array.getElem?_toList]; exact hv
          obtain ⟨x, hx, rx⟩ := vals_at hit q
          rw [List.getElem?_map] at hx
          cases hq : ks[i]? with
          | none => rw [hq] at hx; cases hx
          | some k =>
            rw [hq] at hx
            have e := Option.some.inj hx
            exact ⟨k, rfl, by rw [show kk.emb k = x from e]; exact rx⟩
        have none_of : ∀ b, s.heap.objs.size ≤ b → s.heap.get? b = none := fun b hb => by
          cases q : s.heap.get? b with
          | none => rfl
          | some o => exact absurd (Nat.lt_of_lt_of_le (Heap.lt_size q) hb) (Nat.lt_irrefl _)
        refine set_update_G (kk := kk) ((Walks.list hh3 _ l hneI items).toS) s.heap.objs.size
          hSf ks hisz hfew hval s.heap (none_of _ (Nat.le_refl _)) (fun b hb => none_of b (by
            rw [List.mem_singleton.mp hb, Heap.size_push]
            exact Nat.le_succ _)) (items.size - 0) 0 _ (fun _ => false) 0 (by omega) (Nat.zero_le _)
          ⟨⟨_, Heap.get?_push_size _ rfl, rfl, rfl⟩, (hl1.push _)⟩ (fun b o e => Heap.get?_push_of_some _ (Heap.get?_push_of_some _ e)) ?hS0 (Nat.le_refl _) (fun x => by simp) ?hR
        case hS0 => exact (setG_new (kk := kk) (h := s.heap)).at fun o e => Heap.get?_push_of_some _ e
        case hR =>
          intro s' T m hm hS' g' hkp
          obtain ⟨h', g2, d', tk', os'⟩ := s'
          have eg : g2 = s.gens := hm.gens
          have ed : d' = s.drawn := hm.drawn
          have eo : os' = s.os := hm.os
          subst eg; subst ed; subst eo
          show wpAny _ _ _ _ _ _
          refine wpAny_pure ?_
          show wpAny _ _ (ret Value.none) _ _ _
          exact wpAny_pure ⟨rfl, h', tk', T, m, rfl, hS', g', hkp⟩

      · cases r₂ with
        | error e => exact hr₂
        | ok fl₂ =>
          cases fl₂ with
          | ret r =>
            obtain ⟨rfl, h', tk, T, m, rfl, hS', g', hk'⟩ := hr₂
            repeat (any_goals (first | assumption | wp_step))
            exact h _ _ _ _ hS' g' hk'
          | _ => exact hr₂.elim
    | _ => exact hr.elim
end
section
variable {X : Cx} {κ : Type} [DecidableEq κ]
def rSetG (K : PySem.W.Frag) (kk : KK X.prog X.w κ) : List V → Hp → VK → Prop := fun xs H Q => ∃ (l : Addr) (ks : List κ), xs = [V.ref l] ∧ SqL K H l (ks.map kk.emb) ∧ ks.length < 4000 ∧
  ∀ a S n, H a = none → (∀ x, S x = true ↔ x ∈ ks) → Q (.ref a) (upd H a (SGO kk a S n))
theorem cr_setG (kk : KK X.prog X.w κ) (hc : X.calm = true) : CallR X (.type "set") (rSetG X.K kk) := by
  intro pins s σ H xs us Q I r h
  obtain ⟨l, ks, rfl, hl, hf, q⟩ := h
  rw [Vals.ref1 r]
  obtain ⟨its, rv, pl, hz⟩ := I.list hl
  have hn : H s.heap.objs.size = none := I.hok.fresh (Nat.le_refl _)
  refine call_set_G (kk := kk) ks (I.ok.hd hc) pl.isList (by simpa using rv) hf fun h' tk T m R g k => ?_
  exact ⟨.ref s.heap.objs.size, upd H s.heap.objs.size (SGO kk s.heap.objs.size T m), I.laid (t' := tk) k (Nat.le_refl _) (sgo_new R), rfl, q _ T m hn g⟩
end
end SG

set_option Elab.async false
set_option linter.all false
set_option maxRecDepth 100000
set_option maxHeartbeats 1000000
/-! The data layer: *range in a display; extend; defs that hand on a new list; sorted(set(..)). -/
namespace DL
open PySem PySem.Spec PyProof.Rows L2 SG
section
variable {X : Cx} {fa : Option FA} {W : L2.St → XK} {a b e : Expr} {es : List Expr} {p sp_ pos : Pos} {f1 f2 : Env' → M D} {fl : Env' → M (List D)}
theorem goodL_rg {F H : Hp} {σ : L2.St} {s : FS} {i j : Int} {Q : List V → Hp → Prop} {ρ : Env'} {tr : TA} (kr : TLOk X fa W tr fl) (h1 : Same F H) (h2 : FeedOk X.K fa F H s) (h3 : EnvOk X.K fa F σ ρ)
    (h : GoodL X fa (W σ) F H (((M.lift (rgD i j)).bind fun x => (M.lift (seqD x)).bind fun xs => (fl ρ).bind fun ys => M.pure (xs ++ ys)) s) Q) : RgOk i j ∧ tr σ H fun ys H2 => Q (rgV i j ++ ys) H2 := by
  unfold rgD at h
  by_cases hr : RgOk i j
  · rw [if_pos hr] at h
    refine ⟨hr, ?_⟩
    refine kr.then GoodL.tgt h1 h2 h3 h fun y s2 w F2 H2 e2 o2 r2 v2 h'' => ?_
    exact h'' _ F2 H2 (Ext.refl e2.fh) o2 ((rgD_rep i _).append r2)
  · rw [if_neg hr] at h
    exact h.elim
theorem ld_starRg1 (hc : X.calm = true) (hm : X.mg "range" = none) (ha : ED X fa W a f1) (hr : LD X fa W es fl) (hg : Gl X "range" := by rfl) (na : starEach [a] X.env = (false, eval a X.env) :: starEach [] X.env := by rfl)
    (hs : starEach (.Starred (.Call (.Name "range" p) [a] [] pos) sp_ :: es) X.env = (true, eval (.Call (.Name "range" p) [a] [] pos) X.env) :: starEach es X.env := by rfl) :
    LD X fa W (.Starred (.Call (.Name "range" p) [a] [] pos) sp_ :: es) (lStar (dUn rgD1 f1) fl) := by
  obtain ⟨ta, pa, ka⟩ := ha
  obtain ⟨tr, pr, kr⟩ := hr
  refine ⟨_, pa_starRg hc (prg_1 hg hm pa na) pr hs, fun σ F H ρ s Q h1 h2 h3 h => ?_⟩
  change GoodL X fa (W σ) F H ((((f1 ρ).bind fun x => M.lift (rgD1 x)) s).bnd _) Q at h
  refine ka σ F H ρ s _ h1 h2 h3 ?_
  change GoodL X fa (W σ) F H (((f1 ρ s).bnd _).bnd _) Q at h
  generalize f1 ρ s = r at h
  cases r with
  | bad => exact h
  | err e s' => exact h
  | ok x s1 =>
    intro v F1 H1 e1 o1 r1
    have h' := GoodL.tgt.of_ext e1 h
    cases r1 with
    | int j => exact ⟨j, rfl, goodL_rg kr e1.fh o1 (h3.mono e1.ff) h'⟩
    | _ => exact h'.elim
theorem ld_starRg2 (hc : X.calm = true) (hm : X.mg "range" = none) (ha : ED X fa W a f1) (hb : ED X fa W b f2) (hr : LD X fa W es fl) (hg : Gl X "range" := by rfl) (na : starEach [a, b] X.env = (false, eval a X.env) :: starEach [b] X.env := by rfl)
    (nb : starEach [b] X.env = (false, eval b X.env) :: starEach [] X.env := by rfl) (hp : (backTo pos (starEach [b] X.env)).any (·.1) = false := by rfl)
    (hs : starEach (.Starred (.Call (.Name "range" p) [a, b] [] pos) sp_ :: es) X.env = (true, eval (.Call (.Name "range" p) [a, b] [] pos) X.env) :: starEach es X.env := by rfl) :
    LD X fa W (.Starred (.Call (.Name "range" p) [a, b] [] pos) sp_ :: es) (lStar (dOp rgD2 f1 f2) fl) := by
  obtain ⟨ta, pa, ka⟩ := ha
  obtain ⟨tb, pb, kb⟩ := hb
  obtain ⟨tr, pr, kr⟩ := hr
  refine ⟨_, pa_starRg hc (prg_2 hg hm pa pb na nb hp) pr hs, fun σ F H ρ s Q h1 h2 h3 h => ?_⟩
  change GoodL X fa (W σ) F H (((f1 ρ s).bnd fun x s => (f2 ρ s).bnd fun y s => M.lift (rgD2 x y) s).bnd fun x => (M.lift (seqD x)).bind fun xs => (fl ρ).bind fun ys => M.pure (xs ++ ys)) Q at h
  refine ka σ F H ρ s _ h1 h2 h3 ?_
  generalize f1 ρ s = r at h
  cases r with
  | bad => exact h
  | err e s' => exact h
  | ok x s1 =>
    intro v F1 H1 e1 o1 r1
    have h' := GoodL.tgt.of_ext e1 h
    change GoodL X fa (W σ) F1 H1 (((f2 ρ s1).bnd fun y s => M.lift (rgD2 x y) s).bnd fun x => (M.lift (seqD x)).bind fun xs => (fl ρ).bind fun ys => M.pure (xs ++ ys)) Q at h'
    refine kb σ F1 H1 ρ s1 _ e1.fh o1 (h3.mono e1.ff) ?_
    generalize f2 ρ s1 = r2 at h'
    cases r2 with
    | bad => exact h'
    | err e s' => exact h'
    | ok y s2 =>
      intro u F2 H2 e2 o2 r2
      have h2' := GoodL.tgt.of_ext e2 h'
      cases r1 with
      | int i =>
        cases r2 with
        | int j => exact ⟨i, j, rfl, rfl, goodL_rg kr e2.fh o2 (h3.mono (e1.ff.trans e2.ff)) h2'⟩
        | _ => exact h2'.elim
      | _ => cases r2 <;> exact h2'.elim
end

/-! ### extend -/
def MoOkS (X : Cx) (r : V → List V → Hp → VK → Prop) (mo : List D → List D → Option (D × List D)) : Prop :=
  ∀ (fa : Option FA) (F H : Hp) (p : Addr) (vs : List V) (xs as : List D) (ws : List V) (Q : VK) (d : D) (xs' : List D), Same F H → H p = some (.lst vs) → RepL X.K fa F xs vs → RepL X.K fa F as ws → mo xs as = some (d, xs') →
    (∀ v vs', RepL X.K fa F xs' vs' → Rep X.K fa F d v → Q v (upd H p (.lst vs'))) → r (.ref p) ws H Q
section
variable {X : Cx} {fa : Option FA} {W : XK} {e : Expr} {es : List Expr} {p apos cpos : Pos} {fl : Sts → M (List D × Sts)}
theorem vj_mtS {i : Nat} {x m : Str} {id : String} {r : V → List V → Hp → VK → Prop} {mo : List D → List D → Option (D × List D)} (slot : Slot "list" m id) (hty : typeOf (.builtin id) = pure (.type "method_descriptor")) (hm : MtR X id r) (ok : MoOkS X r mo) (hl : LVJ X fa W (e :: es) fl)
    (ho : PE X (.Name x p) (tVar i)) (hbase : attributeBase (.Name x p) m X.env (eval (.Name x p) X.env) = eval (.Name x p) X.env := by rfl)
    (hfew : ((backTo cpos (starEach (e :: es) X.env)).all (fun x => !x.1) && (backToKw cpos (keywordEach [] X.env)).all (fun x => x.1.isSome) && decide ((e :: es).length + ([] : List Keyword).length + (if ([] : List Keyword).isEmpty then 0 else 1) < 30)) = true := by rfl)
    (hline : (apos.endLine == cpos.line) = true := by rfl) (hs : starEach (e :: es) X.env = (false, eval e X.env) :: starEach es X.env := by rfl) (hplain : (backTo cpos (starEach es X.env)).any (·.1) = false := by rfl) :
    VJ X fa W (.Call (.Attribute (.Name x p) m apos) (e :: es) [] cpos) (vMt i mo fl) := by
  obtain ⟨tl, pl, kl⟩ := hl
  refine ⟨_, pe_bm PySem.F.plainAttrs_list slot hty hm ho pl hbase hfew hline hs hplain, fun B F0 H0 F H A σ vs ρ evs s Q hl S hg => ?_⟩
  unfold vMt at hg
  cases e1 : ρ[i]? with
  | none => rw [e1] at hg; exact hg.elim
  | some ev =>
    cases ev with
    | ol xs0 =>
      rw [e1] at hg
      obtain ⟨w0, f0, g0, n0, vs0, q0, r0⟩ := S.slot i _ (app_get e1)
      have hi : i < σ.length := by rw [hl]; exact (List.getElem?_eq_some_iff.mp e1).1
      rw [List.getElem?_append_left hi] at w0
      have w1 := join_some w0
      refine ⟨_, w1, .inl ⟨rfl, _, SqL.of q0⟩, ?_⟩
      refine kl.then GoodV.tgt hl S hg fun ds ρ' s' ws F' H' A' S' hl' hw rl h' => ?_
      change GoodV X fa W B F0 H0 σ vs evs ((match ρ'[i]? with
        | some (.ol xs) => (M.lift (mo xs ds)).bind fun z => M.pure (.d z.1, ρ'.set i (.ol z.2))
        | _ => M.bad : M (EV × Sts)) s') Q at h'
      cases e2 : ρ'[i]? with
      | none => rw [e2] at h'; exact h'.elim
      | some ev2 =>
        cases ev2 with
        | ol xs =>
          rw [e2] at h'
          obtain ⟨w2, f2, g2, n2, vs2, q2, r2⟩ := S'.slot i _ (app_get e2)
          rw [List.getElem?_append_left hi] at w2
          have w3 := join_some w2
          rw [w1] at w3
          have ea : A i = A' i := by
            injection w3 with w3
            injection w3 with w3
            injection w3
          change GoodV X fa W B F0 H0 σ vs evs (((M.lift (mo xs ds)).bind _) s') Q at h'
          cases e3 : mo xs ds with
          | none => rw [e3] at h'; exact h'.elim
          | some z =>
            rw [e3] at h'
            obtain ⟨d, xs'⟩ := z
            rw [ea]
            exact ok fa F' H' (A' i) vs2 xs ds ws _ d xs' S'.ext.fh q2 r2 rl e3 fun v vs' rx rd => h' v F' _ A' (S'.mutate e2 rx rd)
        | _ => rw [e2] at h'; exact h'.elim
    | _ => rw [e1] at hg; exact hg.elim
def moExtend : List D → List D → Option (D × List D)
  | xs, [.lst ys] => if xs.length + ys.length ≤ sizeLine then some (.non, xs ++ ys) else none
  | _, _ => none
theorem ok_extend : MoOkS X rExtend moExtend := by
  intro fa F H p vs xs as ws Q d xs' h0 h r ra e k
  cases ra with
  | nil => cases e
  | cons ry rr =>
    cases rr with
    | cons _ _ => cases ry <;> cases e
    | nil =>
      cases ry with
      | lst hb rb =>
        rename_i b ys us
        by_cases hz : xs.length + ys.length ≤ sizeLine
        · rw [show moExtend xs [.lst ys] = some (.non, xs ++ ys) from if_pos hz] at e
          cases e
          exact ⟨p, b, vs, us, rfl, rfl, h, h0 _ _ hb, by rw [← r.length, ← rb.length]; exact hz, k _ _ (r.append rb) .non⟩
        · rw [show moExtend xs [.lst ys] = none from if_neg hz] at e
          cases e
      | _ => cases e
end

/-! ### sorted(set(a list of texts)) -/
def strL : D → Option (List D)
  | .lst xs => some xs
  | _ => none
def dSortSet (f : Env' → M D) : Env' → M D := fun ρ => (f ρ).bind fun x => M.lift ((strL x).bind fun xs => if xs.length < 4000 then sortSetD xs else none)
section
variable {X : Cx} {fa : Option FA} {W : L2.St → XK} {e : Expr} {p p2 pos pos2 : Pos} {f : Env' → M D}
theorem ed_sortSet (hc : X.calm = true) (hm : X.mg "sorted" = none) (hm2 : X.mg "set" = none) (ha : ED X fa W e f) (hg : Gl X "sorted" := by rfl) (hg2 : Gl X "set" := by rfl)
    (hs : starEach [e] X.env = (false, eval e X.env) :: starEach [] X.env := by rfl)
    (hs2 : starEach [.Call (.Name "set" p2) [e] [] pos2] X.env = (false, eval (.Call (.Name "set" p2) [e] [] pos2) X.env) :: starEach [] X.env := by rfl) :
    ED X fa W (.Call (.Name "sorted" p) [.Call (.Name "set" p2) [e] [] pos2] [] pos) (dSortSet f) := by
  obtain ⟨ta, pa, ka⟩ := ha
  refine ⟨_, pe_callB (cr_sortSetS hc) hg hm (by decide +kernel) (pa_cons (pe_callTy (he := hs) (cr_setG (kkStr X.prog X.w) hc) hg2 hm2 (by decide +kernel) (pa_cons pa pa_nil hs)) pa_nil hs2) (he := hs2), fun σ F H ρ s Q h1 h2 h3 h => ?_⟩
  refine ka.then Good.tgt h1 h2 h3 h fun x s1 v F1 H1 e1 o1 r1 v1 h' => ?_
  have h' := Good.lift h'
  cases r1 with
  | @lst a xs vs hl rl =>
    have h2 : GoodO X fa F1 H1 s1 (if xs.length < 4000 then sortSetD xs else none) Q := h'
    by_cases hz : xs.length < 4000
    · rw [if_pos hz] at h2
      unfold sortSetD at h2
      cases hk : strsD xs with
      | none => rw [hk] at h2; exact h2.elim
      | some ks =>
        rw [hk] at h2
        have ev := strsD_rep hk rl
        refine ⟨a, ks, rfl, SqL.of (by rw [e1.fh _ _ hl, ev]; rfl), ?_, fun q S n hq hS => ?_⟩
        · have z := rl.length
          rw [ev, List.length_map] at z
          omega
        · refine ⟨q, S, n, rfl, upd_same, fun l q2 hnd hl2 hsrt hq2 => ?_⟩
          have eq : l = sortDd ks := sortDd_eq hnd (fun k => (hl2 k).trans (hS k)) hsrt
          subst eq
          have hq1 : H1 q2 = none := by
            by_cases z : q2 = q
            · rw [z]; exact hq
            · rw [upd_ne z] at hq2; exact hq2
          have fq : F1 q = none := Same.free e1.fh hq
          have fq2 : F1 q2 = none := Same.free e1.fh hq1
          have ex : Ext fa F1 H1 F1 (upd H1 q (SGO (kkStr X.prog X.w) q S n)) := ⟨Same.refl _, fun b u z => by rw [upd_ne (ne_of_none z fq)]; exact e1.fh b u z, fun b u z _ => by rw [upd_ne (ne_of_none z hq)]; exact z, fun _ _ => rfl, fun b z => by
            have : b ≠ q := fun w => z (w ▸ hq)
            rw [upd_ne this]; exact z⟩
          have fo : FeedOk X.K fa F1 (upd H1 q (SGO (kkStr X.prog X.w) q S n)) s1 := o1.ext_same (Same.refl _) (fun b u z => by rw [upd_ne (ne_of_none z hq)]; exact z) fun _ _ => rfl
          exact h2 _ _ _ (ex.trans (Ext.new ex.fh hq2)) (fo.new ex.fh hq2) (.lst upd_same (repL_strs _))
    · rw [if_neg hz] at h2
      exact h2.elim
  | _ => exact h'.elim
end
end DL

set_option Elab.async false
set_option linter.all false
set_option maxRecDepth 100000
set_option maxHeartbeats 1000000
/-! The data layer: defs with arguments that hand on a new list of their own. -/
namespace DL
open PySem PySem.Spec PyProof.Rows L2
def GoodNE (K : PySem.W.Frag) (mg : Str → Option Value) (fa : Option FA) (W : XK) (F H : Hp) (r : Res (List D)) (Q : VK) : Prop :=
  match r with
  | .bad => False
  | .ok xs s' => ∀ p vs F' H', Ext fa F H F' H' → FeedOk K fa F' H' s' → H p = none → F' p = none → H' p = some (.lst vs) → RepL K fa F' xs vs → Q (.ref p) H'
  | .err e s' => ∀ cls dd F' H', Ext fa F H F' H' → FeedOk K fa F' H' s' → RepX K mg fa F' H' e cls dd → W cls dd H'
/-- a block that ends by returning a list of its own -/
def NSJ (X : Cx) (fa : Option FA) (W : XK) (sts : List Stmt) (h : Sts → M (List D)) : Prop :=
  ∃ t, PSs X sts t ∧ ∀ (B F0 H0 F H : Hp) (A : Nat → Addr) (σ : L2.St) (ρ : Sts) (s : FS) (Dn : Ends), SOk X.K fa B F0 H0 F H A σ ρ s → GoodNE X.K X.mg fa W F0 H0 (h ρ s) Dn.rt → t Dn σ H
def nThen (g : Sts → M (Fl × Sts)) (h : Sts → M (List D)) : Sts → M (List D) := fun ρ => (g ρ).bind fun p => match p.1 with
  | .nx => h p.2
  | _ => M.bad
def nFrz (i : Nat) (h : Sts → M (List D)) : Sts → M (List D) := fun ρ => h (frz i ρ)
def nRet (i : Nat) : Sts → M (List D) := fun ρ => match ρ[i]? with
  | some (.ol xs) => M.pure xs
  | _ => M.bad
section
variable {X : Cx} {fa : Option FA} {W : XK} {st : Stmt} {sts : List Stmt} {g : Sts → M (Fl × Sts)} {h : Sts → M (List D)} {x : Str} {p pos : Pos} {e : Expr} {es : List Expr}
theorem nsj_cons (h1 : SJ X fa W st g) (h2 : NSJ X fa W sts h) : NSJ X fa W (st :: sts) (nThen g h) := by
  obtain ⟨t1, p1, k1⟩ := h1
  obtain ⟨t2, p2, k2⟩ := h2
  refine ⟨_, pss_cons p1 p2, fun B F0 H0 F H A σ ρ s Dn S hg => ?_⟩
  refine k1 B F0 H0 F H A σ ρ s _ S ?_
  change GoodNE X.K X.mg fa W F0 H0 ((g ρ s).bnd _) Dn.rt at hg
  generalize g ρ s = r at hg
  cases r with
  | bad => exact hg
  | err e s' => exact hg
  | ok q s' =>
    obtain ⟨fl, ρ'⟩ := q
    cases fl with
    | nx => exact fun σ' F' H' A' S' => k2 B F0 H0 F' H' A' σ' ρ' s' Dn S' hg
    | _ => exact hg.elim
theorem nsj_frz (i : Nat) (h2 : NSJ X fa W sts h) : NSJ X fa W sts (nFrz i h) := by
  obtain ⟨t2, p2, k2⟩ := h2
  refine ⟨t2, p2, fun B F0 H0 F H A σ ρ s Dn S hg => ?_⟩
  unfold nFrz frz at hg
  cases e : ρ[i]? with
  | none => rw [e] at hg; exact k2 B F0 H0 F H A σ ρ s Dn S hg
  | some ev =>
    rw [e] at hg
    obtain ⟨F', S'⟩ := S.freeze e
    exact k2 B F0 H0 F' H A σ _ s Dn S' hg
theorem nsj_ret (i : Nat) (ho : PE X (.Name x p) (tVar i)) : NSJ X fa W [.Return (some (.Name x p)) pos] (nRet i) := by
  refine ⟨_, pss_one (ps_ret ho), fun B F0 H0 F H A σ ρ s Dn S hg => ?_⟩
  unfold nRet at hg
  cases e : ρ[i]? with
  | none => rw [e] at hg; exact hg.elim
  | some ev =>
    cases ev with
    | ol xs =>
      rw [e] at hg
      obtain ⟨w0, f0, g0, n0, vs0, q0, r0⟩ := S.slot i _ e
      exact ⟨_, join_some w0, hg (A i) vs0 F H S.ext S.fd g0 f0 q0 r0⟩
    | _ => rw [e] at hg; exact hg.elim
end
def runN (n k : Nat) (body : Sts → M (List D)) : List D → M (List D) := fun ds => if ds.length = k then body (ds.map EV.d ++ List.replicate (n - k) .no) else M.bad
/-- the promise: a new list -/
def NewSpA (K : PySem.W.Frag) (mg : Str → Option Value) (g : List D → M (List D)) : Sp := fun vs H Q E =>
  ∃ fa F s ds, Same F H ∧ FeedOk K fa F H s ∧ RepL K fa F ds vs ∧ GoodNE K mg fa E F H (g ds s) Q
structure CalA (P : Program) (w : World) (K : PySem.W.Frag) (mg : Str → Option Value) (base : Heap) (k : Nat) (x : Str) (ps : List Str) (g : List D → M (List D)) : Prop where
  ex : ∃ f fd, FnOk P w K mg base (L2.CX P w) k f fd ps (NewSpA K mg g) ∧ mg x = some (.ref f) ∧ PySem.W.keepIn K (.ref f) = true ∧ Binds K fd ps []
section
variable {P : Program} {w : World} {K : PySem.W.Frag} {mg : Str → Option Value} {base : Heap}
theorem cala_of {x : Str} {ps : List Str} {st : Stmt} {k : Nat} {g : List D → M (List D)} (D0 : Dff K mg x ps st) (h : ∀ f fd, Fun K x x st f fd → FnOk P w K mg base (L2.CX P w) k f fd ps (NewSpA K mg g)) : CalA P w K mg base k x ps g := by
  obtain ⟨f, fd, F, hm, hb⟩ := D0.ex
  exact ⟨f, fd, h f fd F, hm, F.kp, hb⟩
theorem fn_newA {x qual : Str} {st : Stmt} {f : Addr} {fd : FuncData} {N ps : List Str} {k : Nat} {body : Sts → M (List D)} (F : Fun K x qual st f fd) (S : FnScope N ps (defScope st)) (hN : ps.length ≤ N.length)
    (hbody : ∀ (cdv : Value) (A : Around) (outer : List Env) (s : Shared) (H : Hp) (E : XK) (fa : Option FA), Room k (A.deeper (envOfC qual (defScope st) s.heap.objs.size f cdv)) →
      NSJ (cxOf (L2.CX P w) P w K mg base N qual (defScope st) f cdv A outer s H E) fa E (defBody st) body) :
    FnOk P w K mg base (L2.CX P w) (k + 1) f fd ps (NewSpA K mg (runN N.length ps.length body)) := by
  refine F.okX S (fun vs H Q E h => ?_) fun cdv A outer s H vs Q E hr h => ?_
  · obtain ⟨fa, F, s, ds, h1, h2, r, g⟩ := h
    rw [← r.length]
    by_cases e : ds.length = ps.length
    · exact e
    · unfold runN at g
      rw [if_neg e] at g
      exact g.elim
  · obtain ⟨fa, Fz, fs, ds, h1, h2, r, g⟩ := h
    obtain ⟨t, p, kk⟩ := hbody cdv A outer s H E fa hr
    refine ⟨t, p, ?_⟩
    unfold runN at g
    by_cases e : ds.length = ps.length
    · rw [if_pos e] at g
      have S0 := SOk.start (N := N) h1 h2 r (by omega)
      rw [e] at S0
      exact kk Fz Fz H Fz H _ _ _ fs _ S0 g
    · rw [if_neg e] at g
      exact g.elim
section
variable {X : Cx} {fa : Option FA} {W : L2.St → XK} {e : Expr} {es : List Expr} {p pos : Pos} {fl : Env' → M (List D)}
theorem nd_calA {k : Nat} {x : Str} {ps : List Str} {g : List D → M (List D)} (C : CalA X.prog X.w X.K X.mg X.base k x ps g) (hr : Room k X.A)
    (hx : ∀ σ, PassesAt (L2.CX X.prog X.w) X σ (W σ)) (ha : LD X fa W (e :: es) fl) (hg : Gl X x := by rfl) (hdb : (x == ("__debug__" : Str)) = false := by decide) (he : starEach (e :: es) X.env = (false, eval e X.env) :: starEach es X.env := by rfl) (hpl : (backTo pos (starEach es X.env)).any (·.1) = false := by rfl) :
    ND X fa W (.Call (.Name x p) (e :: es) [] pos) (fun ρ => (fl ρ).bind g) := by
  obtain ⟨f, fd, F, hm, hk, hb⟩ := C.ex
  obtain ⟨ta, pa, ka⟩ := ha
  refine ⟨_, pe_callS F hr hg hm hk hb hx pa hdb he hpl, fun σ F H ρ s Q h1 h2 h3 h => ?_⟩
  refine ka.then GoodN.tgt h1 h2 h3 h fun x s1 v F1 H1 e1 o1 r1 v1 h' => ?_
  exact ⟨fa, F1, s1, x, e1.fh, o1, r1, h'⟩
end
end
/-! ### how they run -/
section
variable {s : FS} {ρ : Sts} {QL : List D → FS → Prop} {i : Nat} {g : Sts → M (Fl × Sts)} {h : Sts → M (List D)}
def nK (h : Sts → M (List D)) (p : Fl × Sts) : M (List D) := match p.1 with
  | .nx => h p.2
  | _ => M.bad
theorem Rm.nthen (q : Rm (g ρ) s fun p s => Rm (nK h p) s QL) : Rm (nThen g h ρ) s QL := Rm.bind q
theorem Rm.nret {xs : List D} (e : ρ[i]? = some (.ol xs)) (q : QL xs s) : Rm (nRet i ρ) s QL := by
  unfold nRet
  rw [e]
  exact ⟨q⟩
theorem Rm.runN {n k : Nat} {body : Sts → M (List D)} {ds : List D} (hk : ds.length = k) (q : Rm (body (ds.map EV.d ++ List.replicate (n - k) .no)) s QL) : Rm (DL.runN n k body ds) s QL := by
  unfold DL.runN
  rw [if_pos hk]
  exact q
instance : RmStep (nThen g h ρ) s QL (Rm (g ρ) s fun p s => Rm (nK h p) s QL) := ⟨Rm.nthen⟩
instance : RmStep (nK h (.nx, ρ)) s QL (Rm (h ρ) s QL) := ⟨fun q => q⟩
instance : RmStep (nFrz i h ρ) s QL (Rm (h (DL.frz i ρ)) s QL) := ⟨fun q => q⟩
variable {ρe : Env'} {QP : List (Key × D) → FS → Prop} {Q : D → FS → Prop} {f : Env' → M D} {fs : Env' → M (List (Key × D))} {fl : Env' → M (List D)} {x : Str}
instance : RmStep (pNil ρe) s QP (QP [] s) := ⟨fun q => ⟨q⟩⟩
instance : RmStep (pCons x f fs ρe) s QP (Rm (f ρe) s fun y s => Rm (fs ρe) s fun ys s => QP ((.inr x, y) :: ys) s) := ⟨fun q => Rm.bind (q.mono fun _ _ q => Rm.bindP q)⟩
instance : RmStep (dDisp fs ρe) s QP (Rm (fs ρe) s fun xs s => xs.length ≤ 15 ∧ QP (mergeD [] xs) s) := ⟨fun q => Rm.bind (q.mono fun xs s ⟨h1, h2⟩ => by rw [if_pos h1]; exact ⟨h2⟩)⟩
instance : RmStep (lStar f fl ρe) s QL (Rm (f ρe) s fun x s => Rm (M.lift (seqD x)) s fun xs s => Rm (fl ρe) s fun ys s => QL (xs ++ ys) s) := ⟨fun q => Rm.bind (q.mono fun _ _ q => Rm.bind (q.mono fun _ _ q => Rm.bindP q))⟩
instance : RmStep (dSortSet f ρe) s Q (Rm (f ρe) s fun x s => Rm (M.lift ((strL x).bind fun xs => if xs.length < 4000 then sortSetD xs else none)) s Q) := ⟨fun q => Rm.bind q⟩
theorem Rm.ext {xs ys : List D} {s : FS} {Q : D × List D → FS → Prop} (h : xs.length + ys.length ≤ sizeLine) (q : Q (.non, xs ++ ys) s) : Rm (M.lift (moExtend xs [.lst ys])) s Q := Rm.lift (if_pos h) q
end
end DL

set_option Elab.async false
set_option linter.all false
set_option maxRecDepth 100000
set_option maxHeartbeats 1000000
/-! The data layer: methods with a star parameter. -/
namespace DL
open PySem PySem.Spec PyProof.Rows L2
def MOkR (P : Program) (w : World) (K : PySem.W.Frag) (mg : Str → Option Value) (base : Heap) (k : Nat) (c m : Str) (g : List D → M D) : Prop := ∃ C f, PySem.W.nsIn K mainGlobals c = some (some (.ref C)) ∧ Cls K C ∧ Meth K C m f ∧ FnR P w K mg base (L2.CX P w) k f (DSp K mg g)
def tMethR (X : Cx) (k : Nat) (m : Str) (W : L2.St → XK) (ta : TE) (t : TA) : TE := fun σ H Q => ta σ H fun x H1 => ∃ a C dx fs, x = .ref a ∧ H1 a = some (.ins C dx fs) ∧ ∃ f sp, Cls X.K C ∧ Meth X.K C m f ∧ FnR X.prog X.w X.K X.mg X.base (L2.CX X.prog X.w) k f sp ∧ fs.lookup m = none ∧ t σ H1 fun vs H2 => sp (x :: vs) H2 Q (W σ)
section
variable {X : Cx} {fa : Option FA} {W : L2.St → XK} {o e : Expr} {es : List Expr} {pos p apos : Pos} {m : Str} {k : Nat} {f1 : Env' → M D} {fl : Env' → M (List D)} {ta : TE} {t : TA}
theorem pe_methR {pl : Sem Bool} (he : PE X o ta) (hr : Room k X.A) (hx : ∀ σ, PassesAt (L2.CX X.prog X.w) X σ (W σ)) (ha : PA X (e :: es) t)
    (hst : starEach (e :: es) X.env = (false, eval e X.env) :: starEach es X.env := by rfl) (hpl : (backTo pos (starEach es X.env)).any (·.1) = false := by rfl)
    (ht : eval (.Call (.Attribute o m apos) (e :: es) [] pos) X.env = (do
      let ov ← eval o X.env
      standAt apos.atName
      let (f, first) ← holding [ov] (getMethod ov m pl)
      callWith pos f first (backTo pos (starEach (e :: es) X.env)) (backToKw pos (keywordEach [] X.env))) := by rfl) :
    PE X (.Call (.Attribute o m apos) (e :: es) [] pos) (tMethR X k m W ta t) := by
  refine ⟨fun pins s σ H Q I h => ?_⟩
  refine PySem.W.methodCall_KW (pl := pl) (thn (he.run pins s σ H _ I h) fun u s1 ⟨x, H1, I1, rx, a, C, dx, fs, ex, ea, f, sp, c, hm, F, l, q⟩ => ?_) ht
  subst ex
  obtain rfl : u = Value.ref a := rx
  refine getmeth_ok I1 ea c hm l ?_
  refine PySem.W.callWith_K (first := [.ref a]) (h₀ := X.base) I.ok.mod.kin hm.kp (thn (ha.run pos pins s1 σ H1 _ I1 q) fun us s2 ⟨vs, H2, I2, r, q2⟩ => ⟨I2.kIn, ?_⟩) hst hpl
  exact run_RS (us := .ref a :: us) (vs := .ref a :: vs) F hr (hx σ) I2 (.cons rfl r) q2
theorem ed_methR {tab : List (Str × (List D → M D))} {pl : Sem Bool} (hr : Room k X.A) (hx : ∀ σ, PassesAt (L2.CX X.prog X.w) X σ (W σ)) (ht : ∀ q ∈ tab, MOkR X.prog X.w X.K X.mg X.base k q.1 m q.2) (ho : ED X fa W o f1) (ha : LD X fa W (e :: es) fl)
    (hst : starEach (e :: es) X.env = (false, eval e X.env) :: starEach es X.env := by rfl) (hpl : (backTo pos (starEach es X.env)).any (·.1) = false := by rfl)
    (hc : eval (.Call (.Attribute o m apos) (e :: es) [] pos) X.env = (do
      let ov ← eval o X.env
      standAt apos.atName
      let (f, first) ← holding [ov] (getMethod ov m pl)
      callWith pos f first (backTo pos (starEach (e :: es) X.env)) (backToKw pos (keywordEach [] X.env))) := by rfl) :
    ED X fa W (.Call (.Attribute o m apos) (e :: es) [] pos) (dMeth tab m f1 fl) := by
  obtain ⟨to, po, ko⟩ := ho
  obtain ⟨ta, pa, ka⟩ := ha
  refine ⟨_, pe_methR po hr hx pa hst hpl hc, fun σ F H ρ s Q h1 h2 h3 h => ?_⟩
  refine ko.then Good.tgt h1 h2 h3 h fun x s1 v F1 H1 e1 o1 r1 v1 h' => ?_
  change Good X fa (W σ) F1 H1 (((M.lift (methOf tab m x)).bind _) s1) Q at h'
  cases q : methOf tab m x with
  | none => rw [q] at h'; exact h'.elim
  | some g =>
    rw [q] at h'
    cases r1 with
    | @ins a C dx c fs vs ga n r =>
      unfold methOf at q
      dsimp only at q
      cases q0 : tab.lookup c with
      | none => rw [q0] at q; cases q
      | some g0 =>
        rw [q0] at q
        dsimp only at q
        cases l : fs.lookup m with
        | some d => rw [l] at q; cases q
        | none =>
          rw [l] at q
          cases q
          obtain ⟨C', f, n', cc, hm, Fn⟩ := ht _ (lookup_mem q0)
          have : C' = C := by
            rw [n] at n'
            cases n'
            rfl
          subst this
          refine ⟨a, C', dx, vs, rfl, e1.fh _ _ ga, f, _, cc, hm, Fn, (r.look (f := m)).2 l, ?_⟩
          refine ka.then Good.tgt e1.fh o1 v1 h' fun xs s2 w F2 H2 e2 o2 r2 v2 h'' => ?_
          exact ⟨fa, F2, s2, .ins c fs :: xs, e2.fh, o2, .cons ((Rep.ins ga n r).mono e2.ff) r2, h''⟩
    | _ => cases q
end
end DL

set_option Elab.async false
set_option linter.all false
set_option maxRecDepth 100000
set_option maxHeartbeats 1000000
/-! The data layer: a, b = e, f by way of a tuple (names that a comprehension takes). -/
namespace DL
open PySem PySem.Spec PyProof.Rows L2
section
variable {X : Cx} {fa : Option FA} {W : XK} {a b c : Expr} {pos px py pz pt : Pos} {f g h : Sts → M (EV × Sts)}
theorem SOk.newT {K : PySem.W.Frag} {B F0 H0 F H : Hp} {A : Nat → Addr} {σ : L2.St} {ρ : Sts} {s : FS} {p : Addr} {o : HO} (S : SOk K fa B F0 H0 F H A σ ρ s) (hp : H p = none) : SOk K fa B F0 H0 F (upd H p o) A σ ρ s := by
  have fp : F p = none := Same.free S.ext.fh hp
  have ex : Ext fa F H F (upd H p o) := ⟨Same.refl _, fun b u z => by rw [upd_ne (ne_of_none z fp)]; exact S.ext.fh b u z, fun b u z _ => by rw [upd_ne (ne_of_none z hp)]; exact z, fun _ _ => rfl, fun b z => by
    have : b ≠ p := fun q => z (q ▸ hp)
    rw [upd_ne this]; exact z⟩
  exact S.step ex (S.fd.ext_same (Same.refl _) (fun b u z => by rw [upd_ne (ne_of_none z hp)]; exact z) fun _ _ => rfl)
theorem sj_parT {i j : Nat} {x y : Str} {kt : Nat} {k2 : Nat} {pt2 : Pos} (hc : X.calm = true) (hN : X.N.Nodup) (ha : VJ X fa W a f) (hb : VJ X fa W b g) (hi : X.N[i]? = some x := by rfl) (hj : X.N[j]? = some y := by rfl) (hij : i ≠ j := by decide)
    (hx : Loc X.env.scope x := by first | exact .inl rfl | exact .inr rfl) (hy : Loc X.env.scope y := by first | exact .inl rfl | exact .inr rfl)
    (fx : X.fn x = true ∨ X.env.scope.names.lookup x = some .local := by first | exact .inl rfl | exact .inr rfl) (fy : X.fn y = true ∨ X.env.scope.names.lookup y = some .local := by first | exact .inl rfl | exact .inr rfl)
    (hw : swappedStores [.Tuple [.Name x px, .Name y py] kt pt] (.Tuple [a, b] k2 pt2) X.env = pure none := by rfl)
    (hs : swapsWithSole [.Tuple [.Name x px, .Name y py] kt pt] (.Tuple [a, b] k2 pt2) pos.line X.env = pure false := by rfl) (e1 : starEach [a, b] X.env = (false, eval a X.env) :: starEach [b] X.env := by rfl) (e2 : starEach [b] X.env = (false, eval b X.env) :: starEach [] X.env := by rfl)
    (h1 : (assignEach [.Tuple [.Name x px, .Name y py] kt pt] X.env).map (·.2) = [assign (.Tuple [.Name x px, .Name y py] kt pt) X.env] := by rfl)
    (hn : (assignEach [.Name x px, .Name y py] X.env).length = 2 := by rfl) (hst : (assignEach [.Name x px, .Name y py] X.env).findIdx? (·.1) = none := by rfl)
    (c1 : (assignEach [.Name x px, .Name y py] X.env).map (·.2) = assign (.Name x px) X.env :: (assignEach [.Name y py] X.env).map (·.2) := by rfl) (c2 : (assignEach [.Name y py] X.env).map (·.2) = assign (.Name y py) X.env :: (assignEach [] X.env).map (·.2) := by rfl) :
    SJ X fa W (.Assign [.Tuple [.Name x px, .Name y py] kt pt] (.Tuple [a, b] k2 pt2) pos) (gPar i j f g) := by
  obtain ⟨ta, pa, ka⟩ := ha
  obtain ⟨tb, pb, kb⟩ := hb
  refine ⟨_, ps_asg (pe_tup (pa_cons pa (pa_cons pb pa_nil e2) e1)) (pg_tup hc (pgs_cons (pg_name hN hi hx fx) (pgs_cons (pg_name hN hj hy fy) pgs_nil c2) c1) hn hst) hs hw h1, fun B F0 H0 F H A σ ρ s Dn S hgood => ?_⟩
  by_cases hlt : i < ρ.length ∧ j < ρ.length
  · unfold gPar at hgood; rw [if_pos hlt] at hgood
    refine ka.then (vs := []) (evs := []) GoodS.tgt S.len (by rw [app0, app0]; exact S) hgood fun eu ρ1 s1 u F1 H1 A1 S1 hl1 h1 => ?_
    rw [app0, app0] at S1
    refine kb.then (vs := [some u]) (evs := [eu]) GoodS.tgt hl1 S1 h1 fun ev ρ2 s2 v F2 H2 A2 S2 hl2 h2 => ?_
    refine ⟨by rw [sizeLine_eq]; show 2 ≤ _; decide, fun p hp => ⟨p, [u, v], rfl, .inl (.inl upd_same), rfl, u, [v], rfl, v, [], rfl, rfl, ?_⟩⟩
    obtain ⟨A3, S3⟩ := two_pop (S2.newT (o := .tup [u, v]) hp) hl2 hij (by rw [← hl2, S.len]; exact hlt.1) (by rw [← hl2, S.len]; exact hlt.2)
    exact h2 _ F2 _ A3 S3
  · unfold gPar at hgood; rw [if_neg hlt] at hgood
    exact hgood.elim
theorem sj_parT3 {i j l : Nat} {x y z : Str} {kt : Nat} {k2 : Nat} {pt2 : Pos} (hc : X.calm = true) (hN : X.N.Nodup) (ha : VJ X fa W a f) (hb : VJ X fa W b g) (hd : VJ X fa W c h) (hi : X.N[i]? = some x := by rfl) (hj : X.N[j]? = some y := by rfl) (hk : X.N[l]? = some z := by rfl) (hij : i ≠ j := by decide) (hil : i ≠ l := by decide) (hjl : j ≠ l := by decide)
    (hx : Loc X.env.scope x := by first | exact .inl rfl | exact .inr rfl) (hy : Loc X.env.scope y := by first | exact .inl rfl | exact .inr rfl) (hz : Loc X.env.scope z := by first | exact .inl rfl | exact .inr rfl)
    (fx : X.fn x = true ∨ X.env.scope.names.lookup x = some .local := by first | exact .inl rfl | exact .inr rfl) (fy : X.fn y = true ∨ X.env.scope.names.lookup y = some .local := by first | exact .inl rfl | exact .inr rfl) (fz : X.fn z = true ∨ X.env.scope.names.lookup z = some .local := by first | exact .inl rfl | exact .inr rfl)
    (hw : swappedStores [.Tuple [.Name x px, .Name y py, .Name z pz] kt pt] (.Tuple [a, b, c] k2 pt2) X.env = pure none := by rfl)
    (hs : swapsWithSole [.Tuple [.Name x px, .Name y py, .Name z pz] kt pt] (.Tuple [a, b, c] k2 pt2) pos.line X.env = pure false := by rfl) (e1 : starEach [a, b, c] X.env = (false, eval a X.env) :: starEach [b, c] X.env := by rfl) (e2 : starEach [b, c] X.env = (false, eval b X.env) :: starEach [c] X.env := by rfl) (e3 : starEach [c] X.env = (false, eval c X.env) :: starEach [] X.env := by rfl)
    (h1 : (assignEach [.Tuple [.Name x px, .Name y py, .Name z pz] kt pt] X.env).map (·.2) = [assign (.Tuple [.Name x px, .Name y py, .Name z pz] kt pt) X.env] := by rfl)
    (hn : (assignEach [.Name x px, .Name y py, .Name z pz] X.env).length = 3 := by rfl) (hst : (assignEach [.Name x px, .Name y py, .Name z pz] X.env).findIdx? (·.1) = none := by rfl)
    (c1 : (assignEach [.Name x px, .Name y py, .Name z pz] X.env).map (·.2) = assign (.Name x px) X.env :: (assignEach [.Name y py, .Name z pz] X.env).map (·.2) := by rfl) (c2 : (assignEach [.Name y py, .Name z pz] X.env).map (·.2) = assign (.Name y py) X.env :: (assignEach [.Name z pz] X.env).map (·.2) := by rfl) (c3 : (assignEach [.Name z pz] X.env).map (·.2) = assign (.Name z pz) X.env :: (assignEach [] X.env).map (·.2) := by rfl) :
    SJ X fa W (.Assign [.Tuple [.Name x px, .Name y py, .Name z pz] kt pt] (.Tuple [a, b, c] k2 pt2) pos) (gPar3 i j l f g h) := by
  obtain ⟨ta, pa, ka⟩ := ha
  obtain ⟨tb, pb, kb⟩ := hb
  obtain ⟨td, pd, kd⟩ := hd
  refine ⟨_, ps_asg (pe_tup (pa_cons pa (pa_cons pb (pa_cons pd pa_nil e3) e2) e1)) (pg_tup hc (pgs_cons (pg_name hN hi hx fx) (pgs_cons (pg_name hN hj hy fy) (pgs_cons (pg_name hN hk hz fz) pgs_nil c3) c2) c1) hn hst) hs hw h1, fun B F0 H0 F H A σ ρ s Dn S hgood => ?_⟩
  by_cases hlt : i < ρ.length ∧ j < ρ.length ∧ l < ρ.length
  · unfold gPar3 at hgood; rw [if_pos hlt] at hgood
    refine ka.then (vs := []) (evs := []) GoodS.tgt S.len (by rw [app0, app0]; exact S) hgood fun eu ρ1 s1 u F1 H1 A1 S1 hl1 h1 => ?_
    rw [app0, app0] at S1
    refine kb.then (vs := [some u]) (evs := [eu]) GoodS.tgt hl1 S1 h1 fun ev ρ2 s2 v F2 H2 A2 S2 hl2 h2 => ?_
    rw [List.append_assoc, List.append_assoc] at S2
    refine kd.then (vs := [some u] ++ [some v]) (evs := [eu] ++ [ev]) GoodS.tgt hl2 S2 h2 fun ew ρ3 s3 w F3 H3 A3 S3 hl3 h3 => ?_
    refine ⟨by rw [sizeLine_eq]; show 3 ≤ _; decide, fun p hp => ⟨p, [u, v, w], rfl, .inl (.inl upd_same), rfl, u, [v, w], rfl, v, [w], rfl, w, [], rfl, rfl, ?_⟩⟩
    have n3 : ρ3.length = ρ.length := by rw [← hl3, S.len]
    have S4 := (S3.newT (o := .tup [u, v, w]) hp).pop (by simp [hl3]) l
    rw [List.set_append_left _ _ (by rw [hl3]; omega), List.set_append_left _ _ (by omega)] at S4
    simp only [← List.append_assoc] at S4
    obtain ⟨A5, S5⟩ := two_pop S4 (by simp [hl3]) hij (by simp; omega) (by simp; omega)
    have c1 : ∀ {α : Type} (L : List α) (q1 q2 q3 : α), ((L.set l q3).set i q1).set j q2 = ((L.set i q1).set j q2).set l q3 := fun L q1 q2 q3 => by
      rw [List.set_comm _ _ (Ne.symm hil), List.set_comm _ _ (Ne.symm hjl)]
    rw [c1, c1] at S5
    exact h3 _ F3 _ A5 S5
  · unfold gPar3 at hgood; rw [if_neg hlt] at hgood
    exact hgood.elim
end
end DL

set_option Elab.async false
set_option linter.all false
set_option maxRecDepth 100000
set_option maxHeartbeats 1000000
/-! enumerate over a tuple. -/
namespace EZ
open PySem
open PySem.Sem (wp)
open PySem.AutoSeq1 (wpAny_loadPart')
theorem meets_enumT_new (l : Addr) (items : Array Value)  :
    Meets (Builtin.«enumerate.__new__» ⟨[.type "enumerate", .ref l], []⟩) (fun _ R s => s.heap.IsTuple l items ∧
      R (.ok (.ret (.ref (s.heap.push { cls := .type "tuple_iterator", data := .fields #[.ref l, .int 0 0] }).objs.size)))
        { s with heap := (s.heap.push { cls := .type "tuple_iterator", data := .fields #[.ref l, .int 0 0] }).push { cls := .type "enumerate", data := .fields #[.none, .bool false, .ref s.heap.objs.size, rawInt 0, .none, .none] } }) :=
  .of_wp fun prog w A R s h => by
    obtain ⟨hp, g, d, tk, os⟩ := s; obtain ⟨hl, h⟩ := h
    have hsub := sub_enumerate
    have hL : Heap.IsTuple (Shared.heap ⟨hp, g, d, tk, os⟩) l items := hl
    wp_walk
    refine wpAny_stack_any fun st => wpAny_pure ?_
    split
    · rename_i c _ _ _ _ _
      cases (c == Value.type "enumerate")
      · wp_walk using wpAny_pyIter_tuple hL
        exact ⟨_, rfl, h⟩
      · wp_walk using wpAny_pyIter_tuple hL
        exact ⟨_, rfl, h⟩
    · wp_walk using wpAny_pyIter_tuple hL
      exact ⟨_, rfl, h⟩


section
variable {prog : Program} {w : World} {A : Around} {E : Value → Shared → Prop} {s : Shared}
theorem call_enumT {l : Addr} {items : Array Value} {Q : Value → Shared → Prop} (hL : s.heap.IsTuple l items)
    (h : ∀ h', IsEnum h' (s.heap.objs.size + 1) s.heap.objs.size 0 .none → h'.IsTupleIter s.heap.objs.size l 0 → h'.objs.size = s.heap.objs.size + 2 →
      (∀ b o, s.heap.get? b = some o → h'.get? b = some o) → Q (.ref (s.heap.objs.size + 1)) { s with heap := h' }) :
    wpAny (model prog w) A (call (.type "enumerate") [.ref l]) Q E s := by
  refine callType_new F.called_enumerate (by decide) (F.typeCall_enumerate_1 _) (F.newCall_enumerate_1 _) (fun obj => F.args_object_init_2 obj _) F.entry_enumerate_new
    (meets_enumT_new l items) ⟨hL, ?_⟩
  have hz : (s.heap.push { cls := .type "tuple_iterator", data := .fields #[.ref l, .int 0 0] }).objs.size = s.heap.objs.size + 1 := Heap.size_push ..
  show _ ∧ _
  rw [hz]
  have he : IsEnum ((s.heap.push { cls := .type "tuple_iterator", data := .fields #[.ref l, .int 0 0] }).push
      { cls := .type "enumerate", data := .fields #[.none, .bool false, .ref s.heap.objs.size, rawInt 0, .none, .none] }) (s.heap.objs.size + 1) s.heap.objs.size 0 .none := by
    have := Heap.get?_push_size (s.heap.push { cls := .type "tuple_iterator", data := .fields #[.ref l, .int 0 0] })
      (o := { cls := .type "enumerate", data := .fields #[.none, .bool false, .ref s.heap.objs.size, rawInt 0, .none, .none] }) rfl
    rw [hz] at this; exact this
  refine ⟨⟨_, he, rfl⟩, h _ he ⟨_, Heap.get?_push_of_some _ (Heap.get?_push_size _ rfl), rfl, rfl⟩ (by rw [Heap.size_push, hz]) fun b o x => Heap.get?_push_of_some _ (Heap.get?_push_of_some _ x)⟩

theorem enumT_next_item {e it l : Addr} {i : Nat} {items : Array Value} {x old : Value} {Q : Value → Shared → Prop}
    (he : IsEnum s.heap e it i old) (hit : s.heap.IsTupleIter it l i) (hl : s.heap.IsTuple l items) (hx : items[i]? = some x) (hne : e ≠ it)
    (hQ : ∀ h', IsEnumOut h' e it ((i : Int) + 1) x s.heap.objs.size → h'.IsTupleIter it l (i + 1) →
      h'.get? s.heap.objs.size = some { cls := .type "tuple", data := .seq #[.int i s.toks, x] } → h'.objs.size = s.heap.objs.size + 1 →
      (∀ b o, b ≠ e → b ≠ it → s.heap.get? b = some o → h'.get? b = some o) → Q (.ref s.heap.objs.size) { s with heap := h', toks := s.toks + 1 }) :
    wpAny (model prog w) A (Builtin.«enumerate.__next__» ⟨[.ref e], []⟩) (fun fin s' => ∃ v, fin = .done (.ret v) ∧ Q v s') E s := by
  obtain ⟨hp, g, d, tk, os⟩ := s
  show wpAny _ _ (field (.ref e) 2 >>= _) _ _ _
  refine wpAny_bind (wpAny_field he rfl (x := .ref it) rfl ?_)
  refine wpAny_bind (RZ.nextOf_tuple_item hit hl hx fun h₁ hit₁ hs₁ => ?_)
  replace hs₁ : Heap.SameBut it hp h₁ := hs₁
  have he₁ : IsEnum h₁ e it i old := (hs₁.2 e hne).trans he
  show wpAny _ _ (field (.ref e) 3 >>= _) _ _ ⟨h₁, g, d, tk, os⟩
  refine wpAny_bind (wpAny_field he₁ rfl (x := rawInt i) rfl ?_)
  show wpAny _ _ (field (.ref e) 4 >>= _) _ _ ⟨h₁, g, d, tk, os⟩
  refine wpAny_bind (wpAny_field he₁ rfl (x := .none) rfl ?_)
  show wpAny _ _ (mkInt i >>= _) _ _ ⟨h₁, g, d, tk, os⟩
  refine wpAny_bind (wpAny_mkInt ?_)
  show wpAny _ _ (setField (.ref e) 3 (rawInt ((i : Int) + 1)) >>= _) _ _ ⟨h₁, g, d, tk + 1, os⟩
  refine wpAny_bind (wpAny_setField_rec he₁ (by simp) fun h₂ he₂ hs₂ => ?_)
  replace hs₂ : Heap.SameBut e h₁ h₂ := hs₂
  replace he₂ : IsEnum h₂ e it ((i : Int) + 1) old := he₂
  show wpAny _ _ (setField (.ref e) 4 .none >>= _) _ _ ⟨h₂, g, d, tk + 1, os⟩
  refine wpAny_bind (wpAny_setField_rec he₂ (by simp) fun h₃ he₃ hs₃ => ?_)
  replace hs₃ : Heap.SameBut e h₂ h₃ := hs₃
  replace he₃ : IsEnum h₃ e it ((i : Int) + 1) old := he₃
  show wpAny _ _ (newTuple [.int i tk, x] >>= _) _ _ ⟨h₃, g, d, tk + 1, os⟩
  refine wpAny_bind (wpAny_newTuple ?_)
  have he₄ : IsEnum (h₃.push { cls := .type "tuple", data := .seq #[.int i tk, x] }) e it ((i : Int) + 1) old := Heap.get?_push_of_some _ he₃
  generalize hh₄ : h₃.push { cls := .type "tuple", data := .seq #[.int i tk, x] } = h₄ at he₄
  have hsz : h₃.objs.size = hp.objs.size := by rw [hs₃.1, hs₂.1, hs₁.1]
  have hel : e < hp.objs.size := Heap.lt_size he
  have ht₄ : h₄.get? hp.objs.size = some { cls := .type "tuple", data := .seq #[.int i tk, x] } := by rw [← hh₄, ← hsz]; exact Heap.get?_push_size _ rfl
  have hz₄ : h₄.objs.size = hp.objs.size + 1 := by rw [← hh₄, Heap.size_push, hsz]
  have hk₄ : ∀ b o, b ≠ e → b ≠ it → hp.get? b = some o → h₄.get? b = some o := fun b o hbe hbi hb => by
    rw [← hh₄]; exact Heap.get?_push_of_some _ (hs₃.extBut b o hbe (hs₂.extBut b o hbe (hs₁.extBut b o hbi hb)))
  have hit₄ : h₄.IsTupleIter it l (i + 1) := by
    rw [← hh₄]; obtain ⟨o, ho, r⟩ := (hit₁.extBut hs₂.extBut (Ne.symm hne)).extBut hs₃.extBut (Ne.symm hne); exact ⟨o, Heap.get?_push_of_some _ ho, r⟩
  show wpAny _ _ (Builtin.SmallTypes.ownedTupleIsFree (.ref e) >>= _) _ _ ⟨h₄, g, d, tk + 1, os⟩
  rw [hsz]
  clear hh₄ he₃ hs₃ he₂ hs₂ he₁ hs₁ hit₁ hsz h₃ h₂ h₁
  refine wpAny_bind ?_
  · unfold Builtin.SmallTypes.ownedTupleIsFree
    refine wpAny_bind (wpAny_field he₄ rfl (x := .none) rfl (wpAny_pure ?_))
    simp only [if_true]
    refine wpAny_bind (wpAny_rule ?_)
    refine wpAny_bind (wpAny_field he₄ rfl (x := old) rfl ?_)
    refine wpAny_bind (wpAny_setField_rec he₄ (by simp) fun h₅ he₅ hs₅ => ?_)
    replace hs₅ : Heap.SameBut e h₄ h₅ := hs₅
    replace he₅ : IsEnum h₅ e it ((i : Int) + 1) x := he₅
    show wpAny _ _ (Builtin.SmallTypes.ownedTupleHandOut (.ref e) (.ref hp.objs.size) >>= _) _ _ ⟨h₅, g, d, tk + 1, os⟩
    refine wpAny_bind ?_
    · unfold Builtin.SmallTypes.ownedTupleHandOut
      refine wpAny_bind (wpAny_setField_rec he₅ (by simp) fun h₆ he₆ hs₆ => ?_)
      replace hs₆ : Heap.SameBut e h₅ h₆ := hs₆
      replace he₆ : IsEnumOut h₆ e it ((i : Int) + 1) x hp.objs.size := he₆
      refine wpAny_setField_rec he₆ (by simp) fun h₇ he₇ hs₇ => ?_
      replace hs₇ : Heap.SameBut e h₆ h₇ := hs₇
      replace he₇ : IsEnumOut h₇ e it ((i : Int) + 1) x hp.objs.size := he₇
      refine wpAny_bind (wpAny_letGo (wpAny_pure ⟨_, rfl, hQ h₇ he₇ ?_ ?_ ?_ ?_⟩))
      · exact ((hit₄.extBut hs₅.extBut (Ne.symm hne)).extBut hs₆.extBut (Ne.symm hne)).extBut hs₇.extBut (Ne.symm hne)
      · exact hs₇.extBut _ _ (Nat.ne_of_gt hel) (hs₆.extBut _ _ (Nat.ne_of_gt hel) (hs₅.extBut _ _ (Nat.ne_of_gt hel) ht₄))
      · rw [hs₇.1, hs₆.1, hs₅.1, hz₄]
      · exact fun b o hbe hbi hb => hs₇.extBut b o hbe (hs₆.extBut b o hbe (hs₅.extBut b o hbe (hk₄ b o hbe hbi hb)))

theorem pyNext_enumT_item {e it l : Addr} {i : Nat} {items : Array Value} {x old : Value} {Q : Option Value → Shared → Prop}
    (he : IsEnum s.heap e it i old) (hit : s.heap.IsTupleIter it l i) (hl : s.heap.IsTuple l items) (hx : items[i]? = some x) (hne : e ≠ it)
    (hQ : ∀ h', IsEnumOut h' e it ((i : Int) + 1) x s.heap.objs.size → h'.IsTupleIter it l (i + 1) →
      h'.get? s.heap.objs.size = some { cls := .type "tuple", data := .seq #[.int i s.toks, x] } → h'.objs.size = s.heap.objs.size + 1 →
      (∀ b o, b ≠ e → b ≠ it → s.heap.get? b = some o → h'.get? b = some o) → Q (some (.ref s.heap.objs.size)) { s with heap := h', toks := s.toks + 1 }) :
    wpAny (model prog w) A (pyNext (.ref e)) Q E s := by
  have hT : s.TypeIs (.ref e) "enumerate" := ⟨_, he, rfl⟩
  unfold pyNext
  exact wpAny_bind (wpAny_attempt (wpAny_callSpecial?_slot (name := Str.ofString "__next__") hT F.slot_enumerate_next
    (wpAny_call_entry F.slot_enumerate_next hT F.entry_enumerate_next
      (enumT_next_item he hit hl hx hne fun h' a b c d k => wpAny_pure (hQ h' a b c d k)) (F.args_enumerate_next_1 _))))

theorem pyNext_enumT_end {e it l : Addr} {i : Nat} {items : Array Value} {old : Value} {Q : Option Value → Shared → Prop} (hh : A.handled = none)
    (he : IsEnum s.heap e it i old) (hit : s.heap.IsTupleIter it l i) (hl : s.heap.IsTuple l items) (hx : items[i]? = none)
    (hQ : ∀ h', Heap.ExtBut it s.heap h' → Q none { s with heap := h' }) : wpAny (model prog w) A (pyNext (.ref e)) Q E s := by
  have hT : s.TypeIs (.ref e) "enumerate" := ⟨_, he, rfl⟩
  unfold pyNext
  refine wpAny_bind (wpAny_attempt (wpAny_callSpecial?_slot (name := Str.ofString "__next__") hT F.slot_enumerate_next
    (wpAny_call_entry F.slot_enumerate_next hT F.entry_enumerate_next ?_ (F.args_enumerate_next_1 _))))
  show wpAny _ _ (field (.ref e) 2 >>= _) _ _ _
  refine wpAny_bind (wpAny_field he rfl (x := .ref it) rfl ?_)
  refine wpAny_bind (RZ.nextOf_tuple_end hh hit hl hx fun h' x he' hx' => ?_)
  obtain ⟨o, ho, hc⟩ := hx'
  refine wpAny_bind (wpAny_isInstance (T := "StopIteration") (b := true) ⟨o, ho, hc⟩ isSubtype_stop ?_)
  exact wpAny_pure (hQ _ he')
end
end EZ
namespace EZ
open PySem PySem.Spec PyProof.Rows L2
/-- the tuple at a as it stands at each turn, each item in a new pair -/
def IteT (K : PySem.W.Frag) (a : Addr) : It :=
  ⟨fun i H => ∃ (xs : List V) (x : V), SqT K H a xs ∧ xs[i]? = some x, fun i H v H' => ∃ T x, v = .ref T ∧ H T = none ∧ H' = upd H T (.tup [.int (i : Nat), x]) ∧ ∀ xs, SqT K H a xs → xs[i]? = some x, fun i H => ∃ xs : List V, SqT K H a xs ∧ xs.length ≤ i⟩
theorem turn_enumT {P : Program} {w : World} {K : PySem.W.Frag} {elts : List Expr} {kk : Nat} {tpos : Pos} (a e it : Addr) :
    Turn P w K (.Tuple elts kk tpos) (IteT K a) [e, it] e (fun i h => (∃ old, IsEnum h e it ((i : Nat) : Int) old) ∧ h.IsTupleIter it a i ∧ e ≠ it) where
  mem := by simp
  obj := fun i h st b hb => by
    obtain ⟨⟨old, he⟩, ⟨o, ho, hc, hd⟩, _⟩ := st
    have e' : b = e ∨ b = it := by simpa using hb
    rcases e' with z | z
    · rw [z]; exact ⟨_, he, fun v q => nomatch q⟩
    · rw [z]; exact ⟨o, ho, fun v q => by rw [hd] at q; cases q⟩
  keep := fun i h h' st k => let ⟨⟨old, he⟩, hi, hne⟩ := st; ⟨⟨old, k e (by simp) _ he⟩, hi.at fun o q => k it (by simp) o q, hne⟩
  item := by
    intro X hP hw hK hc i pins s σ H E I hf st hg
    subst hP hw hK
    obtain ⟨⟨old, he⟩, hit, hne⟩ := st
    obtain ⟨xs, x, hq, hx⟩ := hg
    obtain ⟨its, rv, p, hz⟩ := I.tuple hq
    obtain ⟨u, hu, ru⟩ := rv.get hx
    have hel : e < s.heap.objs.size := Heap.lt_size he
    have hil : it < s.heap.objs.size := by obtain ⟨_, q, _⟩ := hit; exact Heap.lt_size q
    refine pyNext_enumT_item he hit (show s.heap.IsTuple a its.toArray from p) (x := u) (by simpa using hu) hne fun h' ho hit' hT hsz hk => ?_
    refine ⟨_, rfl, wpAny_letOwnedTupleGo_enum (s := { s with heap := h', toks := s.toks + 1 }) ho fun h'' he' sb => ?_⟩
    have hT2 : h''.get? s.heap.objs.size = some { cls := .type "tuple", data := .seq #[.int i s.toks, u] } := (sb.2 _ (Nat.ne_of_gt hel)).trans hT
    have new : ObjOk X.prog X.w (upd H s.heap.objs.size (.tup [.int (i : Nat), x])) h'' s.heap.objs.size (.tup [.int (i : Nat), x]) :=
      ⟨by show 2 ≤ sizeLine; decide, [.int i s.toks, u], .cons ⟨_, rfl⟩ (.cons ru .nil), ⟨_, hT2, rfl, _, rfl⟩⟩
    have I1 : Inv X pins σ (upd H s.heap.objs.size (.tup [.int (i : Nat), x])) { s with heap := h'', toks := s.toks + 1 } :=
      I.turnedNew (ch := [e, it]) (fun b ob hb q => (sb.2 b (fun z => hb (by simp [z]))).trans (hk b ob (fun z => hb (by simp [z])) (fun z => hb (by simp [z])) q)) hf (Nat.le_refl _) new
    refine ⟨.ref s.heap.objs.size, _, I1, rfl, ⟨_, x, rfl, I.hok.fresh (Nat.le_refl _), rfl, fun ys hy => by rw [I.tuple_inj hy hq]; exact hx⟩, ⟨⟨u, ?_⟩, hit'.at fun o q => (sb.2 it (Ne.symm hne)).trans q, hne⟩, fun b hb => ?_⟩
    · have e1 : ((i + 1 : Nat) : Int) = (i : Int) + 1 := by omega
      rw [e1]; exact he'
    · have hb' : b < s.heap.objs.size := by
        have e' : b = e ∨ b = it := by simpa using hb
        rcases e' with z | z
        · rw [z]; exact hel
        · rw [z]; exact hil
      rw [upd_ne (Nat.ne_of_lt hb')]
      exact (hf b hb).1
  done := by
    intro X hP hw hK hc i pins s σ H E I hf st hg
    subst hP hw hK
    obtain ⟨⟨old, he⟩, hit, hne⟩ := st
    obtain ⟨xs, hq, hx⟩ := hg
    obtain ⟨its, rv, p, hz⟩ := I.tuple hq
    obtain ⟨f0, f1, f2, f3, f4, f5⟩ := hf it (by simp)
    have hl := rv.length
    exact pyNext_enumT_end (I.ok.hd hc) he hit (show s.heap.IsTuple a its.toArray from p) (by simp; omega) fun h' eb => ⟨rfl, I.turned (t' := s.toks) (fun b o hb q => eb b o hb q) f0 f1 f3 f4 f5⟩
  self := fun A i s Q E st h => let ⟨⟨_, he⟩, _⟩ := st; wpAny_pyIter_enum he h
def iEnumA (K : PySem.W.Frag) (ta : TA) : TI := fun σ H R => ta σ H fun vs H1 => ∃ a xs, vs = [.ref a] ∧ ((SqL K H1 a xs ∧ R (Ite K a) H1) ∨ (SqT K H1 a xs ∧ R (IteT K a) H1))
theorem pi_enumA {X : Cx} {e : Expr} {ta : TA} {p pos tpos : Pos} {elts : List Expr} {kk : Nat} (hg : Gl X "enumerate") (hm : X.mg "enumerate" = none) (ha : PA X [e] ta) (hs : starEach [e] X.env = [(false, eval e X.env)] := by rfl) :
    PI X (.Tuple elts kk tpos) (.Call (.Name "enumerate" p) [e] [] pos) (iEnumA X.K ta) := by
  refine ⟨fun pins s σ H R I h => ?_⟩
  refine Call_ (ld_blt I hg hm boot_enumerate (PyProof.Rows.callWith_type1 (thn (ha.run pos pins s σ H _ I h) fun us s1 ⟨vs, H1, I1, r1, q1⟩ => ?_) hs rfl))
  obtain ⟨a, xs, ex, q1⟩ := q1
  subst ex
  cases r1 with
  | cons r rr =>
    cases rr
    cases r
    rcases q1 with ⟨hq, q⟩ | ⟨hq, q⟩
    · obtain ⟨its, rv, p', hz⟩ := I1.list hq
      refine call_enumerate_list p'.isList fun h' he hit hsz hk => wpAny_pyIter_enum he ?_
      have I2 : Inv X pins σ H1 { s1 with heap := h' } := I1.kept (t' := s1.toks) hk
      refine ⟨s1.heap.objs.size + 1, [s1.heap.objs.size + 1, s1.heap.objs.size], _, _, H1, rfl, I2, turn_enum a (s1.heap.objs.size + 1) s1.heap.objs.size, ⟨⟨.none, he⟩, hit, Nat.succ_ne_self _⟩, fun b hb => ?_, q⟩
      have e' : b = s1.heap.objs.size + 1 ∨ b = s1.heap.objs.size := by simpa using hb
      have hle : s1.heap.objs.size ≤ b := by
        rcases e' with z | z
        · rw [z]; exact Nat.le_add_right _ _
        · rw [z]; exact Nat.le_refl _
      exact I1.fpOk hle (I1.hok.fresh hle)
    · obtain ⟨its, rv, p', hz⟩ := I1.tuple hq
      refine call_enumT (show s1.heap.IsTuple a its.toArray from p') fun h' he hit hsz hk => wpAny_pyIter_enum he ?_
      have I2 : Inv X pins σ H1 { s1 with heap := h' } := I1.kept (t' := s1.toks) hk
      refine ⟨s1.heap.objs.size + 1, [s1.heap.objs.size + 1, s1.heap.objs.size], _, _, H1, rfl, I2, turn_enumT a (s1.heap.objs.size + 1) s1.heap.objs.size, ⟨⟨.none, he⟩, hit, Nat.succ_ne_self _⟩, fun b hb => ?_, q⟩
      have e' : b = s1.heap.objs.size + 1 ∨ b = s1.heap.objs.size := by simpa using hb
      have hle : s1.heap.objs.size ≤ b := by
        rcases e' with z | z
        · rw [z]; exact Nat.le_add_right _ _
        · rw [z]; exact Nat.le_refl _
      exact I1.fpOk hle (I1.hok.fresh hle)

theorem walk_enumT {K : PySem.W.Frag} {a : Addr} {xs : List V} : Walk (IteT K a) xs.length (fun H => SqT K H a xs) (YPair (fun i => some (.int (i : Nat))) (fun i => xs[i]?)) := by
  refine ⟨fun i _ hi q => ⟨xs, xs[i], q, by simp [hi]⟩, fun _ q => ⟨xs, q, Nat.le_refl _⟩, fun i H v H' _ q y => ?_⟩
  obtain ⟨T, x, h1, h2, h3, h4⟩ := y
  exact ⟨T, .int (i : Nat), x, h1, h2, h3, rfl, h4 xs q⟩
end EZ

set_option Elab.async false
set_option linter.all false
set_option maxRecDepth 100000
set_option maxHeartbeats 1000000
/-! The data layer: enumerate over a list or a tuple. -/
namespace DL
open PySem PySem.Spec PyProof.Rows L2
def enmA : List D → Option (List D)
  | [.lst xs] => some (enumD 0 xs)
  | [.tup xs] => some (enumD 0 xs)
  | _ => none
section
variable {X : Cx} {fa : Option FA} {Wσ : L2.St → XK} {e : Expr} {p pos : Pos} {fl : Env' → M (List D)}
theorem ij_enumA {elts : List Expr} {kk : Nat} {tpos : Pos} (hm : X.mg "enumerate" = none) (ha : LD X fa Wσ [e] fl) (hg : Gl X "enumerate" := by rfl) (hs : starEach [e] X.env = [(false, eval e X.env)] := by rfl) : IJ X fa Wσ (.Tuple elts kk tpos) (.Call (.Name "enumerate" p) [e] [] pos) (iFn enmA fl) := by
  obtain ⟨t, q, k⟩ := ha
  refine ⟨_, EZ.pi_enumA hg hm q hs, fun σ F H ρ s R h1 h2 h3 hg => ?_⟩
  refine k.then GoodI.tgt h1 h2 h3 hg fun x s1 v F1 H1 e1 o1 r1 v1 h' => ?_
  change GoodI X fa (Wσ σ) F1 H1 (M.lift (enmA x) s1) R at h'
  cases r1 with
  | nil => exact h'.elim
  | cons r rr =>
    cases rr with
    | cons _ _ => cases r <;> exact h'.elim
    | nil =>
      cases r with
      | @lst a xs vs hq rl =>
        refine ⟨a, vs, rfl, .inl ⟨SqL.of (e1.fh _ _ hq), h' _ F1 H1 (Ext.refl e1.fh) o1 (wj_pair (xs := enumD 0 xs) (by rw [enumD_len, rl.length]; exact walk_enum (xs := vs)) (fun F2 H2 h1 h2 => SqL.of (h2 _ _ (h1 _ _ hq))) fun i x hx => ?_)⟩⟩
        rw [enumD_get] at hx
        cases qx : xs[i]? with
        | none => rw [qx] at hx; cases hx
        | some y =>
          rw [qx] at hx
          cases hx
          refine ⟨_, _, rfl, fun F2 v h1 hv => ?_, fun F2 v h1 hv => ?_⟩
          · cases hv
            rw [Nat.zero_add]
            exact .int _
          · obtain ⟨d, hd, rd⟩ := rl.get hv
            rw [qx] at hd
            cases hd
            exact rd.mono h1
      | @tup a xs vs hq rl =>
        refine ⟨a, vs, rfl, .inr ⟨same_seqT e1.fh hq, h' _ F1 H1 (Ext.refl e1.fh) o1 (wj_pair (xs := enumD 0 xs) (by rw [enumD_len, rl.length]; exact EZ.walk_enumT (xs := vs)) (fun F2 H2 h1 h2 => same_seqT h2 (same_seqT h1 hq)) fun i x hx => ?_)⟩⟩
        rw [enumD_get] at hx
        cases qx : xs[i]? with
        | none => rw [qx] at hx; cases hx
        | some y =>
          rw [qx] at hx
          cases hx
          refine ⟨_, _, rfl, fun F2 v h1 hv => ?_, fun F2 v h1 hv => ?_⟩
          · cases hv
            rw [Nat.zero_add]
            exact .int _
          · obtain ⟨d, hd, rd⟩ := rl.get hv
            rw [qx] at hd
            cases hd
            exact rd.mono h1
      | _ => exact h'.elim
end
end DL

set_option Elab.async false
set_option linter.all false
set_option maxRecDepth 100000
set_option maxHeartbeats 1000000
/-! The data layer: r = TABLE[key] and x, .. = r(..), for a table of defs of the module. -/
namespace DL
open PySem PySem.Spec PyProof.Rows L2
/-- the module's name x holds a dict of defs, each of which does what the table tells -/
structure FTab (P : Program) (w : World) (K : PySem.W.Frag) (mg : Str → Option Value) (base : Heap) (k : Nat) (x : Str) (ps : List Str) (tab : List (Str × (List D → M D))) : Prop where
  ex : ∃ a, mg x = some (.ref a) ∧ ∀ z g, tab.lookup z = some g → ∃ f fd, KDct K w a z (.ref f) ∧ FnOk P w K mg base (L2.CX P w) k f fd ps (DSp K mg g) ∧ PySem.W.keepIn K (.ref f) = true ∧ Binds K fd ps []
def strOf : D → Option Str
  | .str z => some z
  | _ => none
def gRule (i : Nat) (tab : List (Str × (List D → M D))) (f : Env' → M D) (fl : Env' → M (List D)) (b : D → Option Asg) : Sts → M (Fl × Sts) := fun ρ =>
  if i < ρ.length then (f (mask ρ)).bind fun k => (M.lift (strOf k)).bind fun z => (M.lift (tab.lookup z)).bind fun g => (fl (mask (ρ.set i .no))).bind fun xs => (g xs).bind fun r => (M.lift (b r)).bind fun as => M.pure (.nx, setS as (ρ.set i .no))
  else M.bad
theorem SOk.forget {K : PySem.W.Frag} {fa : Option FA} {B F0 H0 F H : Hp} {A : Nat → Addr} {σ : L2.St} {ρ : Sts} {s : FS} (S : SOk K fa B F0 H0 F H A σ ρ s) (i : Nat) : SOk K fa B F0 H0 F H A σ (ρ.set i .no) s := by
  refine ⟨S.ext, S.flr, S.fd, by rw [List.length_set]; exact S.len, fun j ev h => ?_, fun j l ev ev' h h' ho ho' e => ?_⟩
  · rw [List.getElem?_set] at h
    split at h
    · split at h
      · cases h; trivial
      · cases h
    · exact S.slot j ev h
  · have at_ : ∀ {j : Nat} {ev : EV}, (ρ.set i .no)[j]? = some ev → ev.own = true → ρ[j]? = some ev := fun {j ev} h ho => by
      rw [List.getElem?_set] at h
      split at h
      · split at h
        · cases h; cases ho
        · cases h
      · exact h
    exact S.inj j l ev ev' (at_ h ho) (at_ h' ho') ho ho' e
section
variable {X : Cx} {fa : Option FA} {W : XK} {e a1 tg : Expr} {as : List Expr} {rest : List Stmt} {p1 p2 p3 p4 p5 p6 p7 : Pos} {f : Env' → M D} {fl : Env' → M (List D)} {g' : Sts → M (Fl × Sts)} {b : D → Option Asg} {ns : List Nat} {k i : Nat} {ps : List Str} {x r : Str} {tab : List (Str × (List D → M D))}
/-- the i-th slot holds a def of the table -/
def tRule (P : Program) (w : World) (K : PySem.W.Frag) (mg : Str → Option Value) (base : Heap) (k i : Nat) (ps : List Str) (W : XK) (t : TA) : TE := fun σ H Q =>
  ∃ f fd g, σ[i]? = some (some (.ref f)) ∧ FnOk P w K mg base (L2.CX P w) k f fd ps (DSp K mg g) ∧ PySem.W.keepIn K (.ref f) = true ∧ Binds K fd ps [] ∧ t σ H fun vs H1 => DSp K mg g vs H1 Q W
theorem pe_rule {t : TA} (hr : Room k X.A) (hN : X.N[i]? = some r) (hv : Vis X.env.scope r) (hx : ∀ σ, PassesAt (L2.CX X.prog X.w) X σ W) (ha : PA X (a1 :: as) t)
    (hdb : (r == ("__debug__" : Str)) = false := by decide) (hcd : (r == ("__classdict__" : Str)) = false := by decide)
    (he : starEach (a1 :: as) X.env = (false, eval a1 X.env) :: starEach as X.env := by rfl) (hpl : (backTo p6 (starEach as X.env)).any (·.1) = false := by rfl) :
    PE X (.Call (.Name r p5) (a1 :: as) [] p6) (tRule X.prog X.w X.K X.mg X.base k i ps W t) := by
  refine ⟨fun pins s σ H Q I h => ?_⟩
  obtain ⟨f, fd, g, hs, F, hk, hb, ht⟩ := h
  refine wpAny_Call_Name_kw (thn ((pe_var (pos := p5) hN hv hdb hcd).run pins s σ H (fun v H1 => v = .ref f ∧ H1 = H) I ⟨.ref f, hs, rfl, rfl⟩) fun u s1 ⟨v, H1, I1, r1, q1⟩ => ?_)
  obtain ⟨rfl, rfl⟩ := q1
  cases r1
  refine PySem.W.callWith_K (h₀ := X.base) I.ok.mod.kin hk (thn (ha.run p6 pins s1 σ _ _ I1 ht) fun us s2 ⟨vs, H2, I2, r, q⟩ => ⟨I2.kIn, ?_⟩) he hpl
  exact run_fnS (E := fun _ => W) F hr hb (hx σ) I2 r q
theorem ssj_rule (C : FTab X.prog X.w X.K X.mg X.base k x ps tab) (hr : Room k X.A) (hx : ∀ σ, PassesAt (L2.CX X.prog X.w) X σ W) (he : ED X fa (fun _ => W) e f) (ha : LD X fa (fun _ => W) (a1 :: as) fl) (hg : TJ X tg ns b) (hrest : SSJ X fa W rest g')
    (hN : X.N.Nodup) (hi : X.N[i]? = some r := by rfl) (hl : Loc X.env.scope r := by first | exact .inl rfl | exact .inr rfl) (hv : Vis X.env.scope r := by first | exact .inl rfl | exact .inr rfl | exact .inr (.inl rfl))
    (hglob : Gl X x := by rfl) (hd : (x == ("__debug__" : Str)) = false := by decide) (hsub : PlainIx e := by exact fun _ _ => rfl)
    (hs1 : swapsWith (.Subscript (.Name x p2) e p3) (some (.Name r p1)) p4.line X.env = pure false := by rfl)
    (hf : X.fn r = true ∨ X.env.scope.names.lookup r = some .local := by first | exact .inl rfl | exact .inr rfl | assumption)
    (hdb : (r == ("__debug__" : Str)) = false := by decide) (hcd : (r == ("__classdict__" : Str)) = false := by decide)
    (hst : starEach (a1 :: as) X.env = (false, eval a1 X.env) :: starEach as X.env := by rfl) (hpl : (backTo p6 (starEach as X.env)).any (·.1) = false := by rfl)
    (hs2 : swapsWithSole [tg] (.Call (.Name r p5) (a1 :: as) [] p6) p7.line X.env = pure false := by rfl) (hw : swappedStores [tg] (.Call (.Name r p5) (a1 :: as) [] p6) X.env = pure none := by rfl) (h1 : (assignEach [tg] X.env).map (·.2) = [assign tg X.env] := by rfl) :
    SSJ X fa W (.Assign [.Name r p1] (.Subscript (.Name x p2) e p3) p4 :: .Assign [tg] (.Call (.Name r p5) (a1 :: as) [] p6) p7 :: rest) (gSeq (gRule i tab f fl b) g') := by
  obtain ⟨a, hm, hC⟩ := C.ex
  obtain ⟨te, pe, ke⟩ := he
  obtain ⟨tl, pl, kl⟩ := ha
  obtain ⟨gt, pg, kg⟩ := hg
  obtain ⟨tr, pr, kr⟩ := hrest
  have q1 : PE X (.Subscript (.Name x p2) e p3) (tOp (L2.rIxD X.K X.w) (tC (.ref a)) te) := pe_ix ix_kdict (pe_glob (v := .ref a) hglob hm rfl hd) pe hsub
  have q2 := pe_rule (k := k) (i := i) (ps := ps) (p5 := p5) (p6 := p6) hr hi hv hx pl hdb hcd hst hpl
  refine ⟨_, pss_cons (ps_set hN hi hl q1 hs1 hf) (pss_cons (ps_asg q2 pg hs2 hw h1) pr), fun B F0 H0 F H A σ ρ s Dn S hgood => ?_⟩
  change GoodS X fa W B F0 H0 ((gRule i tab f fl b ρ s).bnd _) Dn at hgood
  by_cases hlen : i < ρ.length
  · unfold gRule at hgood
    rw [if_pos hlen] at hgood
    have S0 : SOk X.K fa B F0 H0 F H A (σ ++ []) (ρ ++ []) s := by rw [app0, app0]; exact S
    refine ke σ F H (mask ρ) s _ S.ext.fh S.fd (S0.mask S.len) ?_
    change GoodS X fa W B F0 H0 (((f (mask ρ) s).bnd _).bnd _) Dn at hgood
    generalize f (mask ρ) s = r1 at hgood
    cases r1 with
    | bad => exact hgood
    | err e s' => exact fun cls dd F' H' e fo rx => hgood cls dd F' H' (S.ext.trans e) fo rx
    | ok kd s1 =>
      intro v F1 H1 e1 o1 rv
      have S1 := S.step e1 o1
      cases kd with
      | str z =>
        cases rv
        cases hz : tab.lookup z with
        | none =>
          change GoodS X fa W B F0 H0 ((((M.lift (tab.lookup z)).bind _) s1).bnd _) Dn at hgood
          rw [hz] at hgood
          exact hgood.elim
        | some g =>
          change GoodS X fa W B F0 H0 ((((M.lift (tab.lookup z)).bind _) s1).bnd _) Dn at hgood
          rw [hz] at hgood
          obtain ⟨f0, fd, kd, Fn, hk, hb⟩ := hC z g hz
          refine ⟨a, z, .ref f0, rfl, rfl, kd, ?_⟩
          obtain ⟨A1, S2⟩ := S1.set (x := .opq (.ref f0)) (.opq _) i
          have S3 := S2.forget i
          rw [List.set_set] at S3
          have hat : (σ.set i (some (V.ref f0)))[i]? = some (some (V.ref f0)) := by
            rw [List.getElem?_set_self (by rw [S.len]; exact hlen)]
          refine ⟨f0, fd, g, hat, Fn, hk, hb, ?_⟩
          have S4 : SOk X.K fa B F0 H0 F1 H1 A1 (σ.set i (some (V.ref f0)) ++ []) (ρ.set i .no ++ []) s1 := by rw [app0, app0]; exact S3
          refine kl _ F1 H1 (mask (ρ.set i .no)) s1 _ S3.ext.fh S3.fd (S4.mask S3.len) ?_
          change GoodS X fa W B F0 H0 (((fl (mask (ρ.set i .no)) s1).bnd _).bnd _) Dn at hgood
          generalize fl (mask (ρ.set i .no)) s1 = r2 at hgood
          cases r2 with
          | bad => exact hgood
          | err e s' => exact fun cls dd F' H' e fo rx => hgood cls dd F' H' (S3.ext.trans e) fo rx
          | ok xs s2 =>
            intro vs F2 H2 e2 o2 rl
            have S5 := S3.step e2 o2
            refine ⟨fa, F2, s2, xs, S5.ext.fh, o2, rl, ?_⟩
            change GoodS X fa W B F0 H0 (((g xs s2).bnd _).bnd _) Dn at hgood
            generalize g xs s2 = r3 at hgood
            cases r3 with
            | bad => exact hgood
            | err e s' => exact fun cls dd F' H' e fo rx => hgood cls dd F' H' (S5.ext.trans e) fo rx
            | ok d s3 =>
              intro v F3 H3 e3 o3 rd
              have S6 := S5.step e3 o3
              cases hbd : b d with
              | none =>
                change GoodS X fa W B F0 H0 ((((M.lift (b d)).bind _) s3).bnd _) Dn at hgood
                rw [hbd] at hgood
                exact hgood.elim
              | some ag =>
                change GoodS X fa W B F0 H0 ((((M.lift (b d)).bind _) s3).bnd _) Dn at hgood
                rw [hbd] at hgood
                refine kg fa F3 H3 d v _ _ ag S6.ext.fh rd hbd fun ws hws _ => ?_
                obtain ⟨A2, S7⟩ := S6.setS hws
                exact kr B F0 H0 F3 H3 A2 _ _ s3 Dn S7 hgood
      | _ => exact hgood.elim
  · unfold gRule at hgood
    rw [if_neg hlen] at hgood
    exact hgood.elim
theorem ftab_mono {P : Program} {w : World} {K : PySem.W.Frag} {mg : Str → Option Value} {base : Heap} {j k : Nat} {x : Str} {ps : List Str} {tab : List (Str × (List D → M D))} (C : FTab P w K mg base j x ps tab) (h : j ≤ k) : FTab P w K mg base k x ps tab := by
  obtain ⟨a, hm, hC⟩ := C.ex
  refine ⟨a, hm, fun z g hz => ?_⟩
  obtain ⟨f, fd, k1, F, k2, k3⟩ := hC z g hz
  exact ⟨f, fd, k1, F.mono h, k2, k3⟩
end
end DL

set_option Elab.async false
set_option linter.all false
set_option maxRecDepth 100000
set_option maxHeartbeats 1000000
/-! The data layer: the module's tables of defs as they stand; instances made with defaults. -/
namespace DL
open PySem PySem.Spec PyProof.Rows L2
def entR (e : DictEntry) : Option (Str × Addr) := match e.key, e.val with
  | .str k _, .ref f => some (k, f)
  | _, _ => none
theorem ent_findR (z : Str) : ∀ {es : List DictEntry} {tab : List (Str × Addr)}, es.map entR = tab.map some → (∀ f, tab.lookup z = some f → ∃ e, es.find? (fun e => e.key.isStr z) = some e ∧ e.val = .ref f)
  | [], [], _ => fun f h => by cases h
  | [], _ :: _, h => by cases h
  | _ :: _, [], h => by cases h
  | e :: es, (k, n) :: tab, h => by
    rw [List.map_cons, List.map_cons] at h
    injection h with h1 h2
    have ih := ent_findR z h2
    unfold entR at h1
    split at h1
    · rename_i k' t' n' ek ev
      cases h1
      intro f hf
      rw [List.lookup_cons] at hf
      have hk : e.key.isStr z = (z == k) := by
        rw [ek]
        show (k == z) = (z == k)
        exact BEq.comm
      by_cases hz : z = k
      · subst hz
        rw [beq_self_eq_true] at hf
        cases hf
        exact ⟨e, by rw [List.find?_cons, hk, beq_self_eq_true], ev⟩
      · have hz' : (z == k) = false := by simpa using hz
        rw [hz'] at hf
        obtain ⟨e2, h3, h4⟩ := ih f hf
        exact ⟨e2, by rw [List.find?_cons, hk, hz']; exact h3, h4⟩
    · cases h1
/-- a def of a table: its key, its address, its name, what it does -/
structure FRow where
  key : Str
  adr : Addr
  nm : Str
  g : List D → M D
section
variable {P : Program} {w : World} {K : PySem.W.Frag} {mg : Str → Option Value} {base : Heap} {k : Nat} {ps : List Str}
structure FRowOk (P : Program) (w : World) (K : PySem.W.Frag) (mg : Str → Option Value) (base : Heap) (k : Nat) (ps : List Str) (r : FRow) : Prop where
  at_ : mg r.nm = some (.ref r.adr)
  cal : Cal P w K mg base k r.nm ps r.g
theorem rows_lookup {z : Str} {g : List D → M D} : ∀ {rows : List FRow}, (rows.map fun r => (r.key, r.g)).lookup z = some g → ∃ r, r ∈ rows ∧ r.g = g ∧ (rows.map fun r => (r.key, r.adr)).lookup z = some r.adr
  | [], h => by cases h
  | r :: rows, h => by
    rw [List.map_cons, List.lookup_cons] at h
    rw [List.map_cons, List.lookup_cons]
    cases q : z == r.key with
    | true =>
      rw [q] at h
      cases h
      exact ⟨r, List.mem_cons_self, rfl, rfl⟩
    | false =>
      rw [q] at h
      obtain ⟨r2, h1, h2, h3⟩ := rows_lookup h
      exact ⟨r2, List.mem_cons_of_mem _ h1, h2, h3⟩
theorem ftab_mk {x : Str} {a : Addr} {es : Array DictEntry} {n : Nat} (rows : List FRow) (hm : mg x = some (.ref a)) (D : KDict K w a es n) (h : es.toList.map entR = (rows.map fun r => (r.key, r.adr)).map some) (hr : ∀ r, r ∈ rows → FRowOk P w K mg base k ps r) :
    FTab P w K mg base k x ps (rows.map fun r => (r.key, r.g)) := by
  refine ⟨a, hm, fun z g hz => ?_⟩
  obtain ⟨r, hr1, rfl, hl⟩ := rows_lookup hz
  obtain ⟨m1, ⟨f, fd, F, m2, kp, hb⟩⟩ := hr r hr1
  obtain rfl : f = r.adr := by
    rw [m1] at m2
    injection m2 with m2
    injection m2 with m2
    exact m2.symm
  obtain ⟨e, h1, h2⟩ := ent_findR z h r.adr hl
  refine ⟨_, fd, ⟨es, n, .ref r.adr, D.at_, D.lit, ?_, rfl⟩, F, kp, hb⟩
  unfold PySem.W.nsIn
  rw [D.at_]
  dsimp only
  rw [h1]
  show some (some e.val) = _
  rw [h2]
theorem frows_nil : ∀ r, r ∈ ([] : List FRow) → FRowOk P w K mg base k ps r := fun r h => by cases h
theorem frows_cons {r : FRow} {rows : List FRow} (h1 : FRowOk P w K mg base k ps r) (h2 : ∀ r, r ∈ rows → FRowOk P w K mg base k ps r) : ∀ q, q ∈ r :: rows → FRowOk P w K mg base k ps q := fun q h => by
  rcases List.mem_cons.mp h with rfl | h
  · exact h1
  · exact h2 q h
/-! ### an instance with defaults -/
variable {h : Heap} {cls qual : Str} {C f : Addr} {fd : FuncData} {ps : List Str} {params : Arguments} {body : List Stmt} {scope : Scope} {dvs : List V} {kws : List (Str × V)} {g : Addr → List D → M (List (Str × D))} {n : Nat} {ks : List Str}
/-- some of the keyword-only ones (ms) and some positional ones lack -/
theorem mal_dfl (X : K.In h) (G : h.Ns mainGlobals mg) (hn : PySem.W.nsIn K mainGlobals cls = some (some (.ref C))) (mk : Mk K C f) (Fn : FnOk P w K mg base (L2.CX P w) k f fd ps (DSpI K mg cls g)) (F : FunD K "__init__" qual params body scope dvs kws f fd)
    (ms : List (Str × V)) (gg : {α : Type} → List α → List α → List α → List α → List α) (perm : List D → List D → List D)
    (hd : dvs ≠ []) (hk : kws ≠ []) (hms : ∀ q ∈ ms, q ∈ kws)
    (hrel : ∀ {vs ds mz zs : List V} {us its mv ws : List Value}, Vals vs us → Vals ds its → Vals mz mv → Vals zs ws → Vals (gg vs ds mz zs) (gg us its mv ws))
    (hb : ∀ (T D : Addr) (doc pm : Value) (an : Option Addr) (cdv ct : Value) (us its mv ws : List Value), us.length = n + 1 → its.length = dvs.length → mv.length = ms.length → ws.length = ks.length →
      ∃ k, bindArgs (PySem.W.fnOf "__init__" qual params body scope (.ref T) (.ref D) doc pm an cdv ct) ⟨us, ks.zip ws⟩ = seqItems? (.ref T) >>= k ∧ KwChain D ((ms.map (·.1)).zip mv) (k (some its.toArray)) (ps.zip (gg us its mv ws)))
    (hrep : ∀ (fa : Option FA) (F : Hp) (x : Addr) (vs zs : List V) (ds es : List D), vs.length = n → zs.length = ks.length → RepL K fa F ds vs → RepL K fa F es zs → ∃ ws, gg (.ref x :: vs) dvs (ms.map (·.2)) zs = .ref x :: ws ∧ RepL K fa F (perm ds es) ws) :
    Mal P w K mg base k cls n ks perm g := by
  obtain ⟨its, mv, B⟩ := F.kbinds (n + 1) ks ms gg hd hk hms hrel hb
  exact ⟨C, f, fd, ps, _, _, hn, PySem.W.mg_of X G hn, mk, Fn, B, hrep⟩
/-- an empty tuple of the module -/
theorem rep_unit {w0 : Addr} {dct : Option Addr} {m : Nat} {sl : Array (Option Value)} (l : K.lookup w0 = some ⟨.type "tuple", dct, .seq #[] m, sl⟩) (fa : Option FA) (F : Hp) : Rep K fa F (.tup []) (.ref w0) :=
  .tup (.inr ⟨_, #[], m, l, rfl, rfl, by rw [sizeLine_eq]; decide, .nil⟩) .nil
end
end DL

set_option Elab.async false
set_option linter.all false
set_option maxRecDepth 100000
set_option maxHeartbeats 1000000
/-! The data layer: f(..) at a statement, some of the arguments told by owned things. -/
namespace DL
open PySem PySem.Spec PyProof.Rows L2
def vCall (g : List D → M D) (fl : Sts → M (List D × Sts)) : Sts → M (EV × Sts) := fun ρ => (fl ρ).bind fun q => (g q.1).bind fun d => M.pure (.d d, q.2)
section
variable {X : Cx} {fa : Option FA} {W : XK} {e : Expr} {es : List Expr} {pos p : Pos} {fl : Sts → M (List D × Sts)}
theorem vj_cal {k : Nat} {ps : List Str} {g : List D → M D} {x : Str} (C : Cal X.prog X.w X.K X.mg X.base k x ps g) (hr : Room k X.A) (hx : ∀ σ, PassesAt (L2.CX X.prog X.w) X σ W) (ha : LVJ X fa W (e :: es) fl) (hg : Gl X x := by rfl) (hdb : (x == ("__debug__" : Str)) = false := by decide)
    (he : starEach (e :: es) X.env = (false, eval e X.env) :: starEach es X.env := by rfl) (hpl : (backTo pos (starEach es X.env)).any (·.1) = false := by rfl) : VJ X fa W (.Call (.Name x p) (e :: es) [] pos) (vCall g fl) := by
  obtain ⟨f, fd, F, hm, hk, hb⟩ := C.ex
  obtain ⟨ta, pa, ka⟩ := ha
  refine ⟨_, pe_callS (E := fun _ => W) F hr hg hm hk hb hx pa hdb he hpl, fun B F0 H0 F H A σ vs ρ evs s Q hl S h => ?_⟩
  refine ka.then GoodV.tgt hl S h fun ds ρ' s' ws F' H' A' S' hl' _ r h' => ?_
  refine ⟨fa, F', s', ds, S'.ext.fh, S'.fd, r, ?_⟩
  change GoodV X fa W B F0 H0 σ vs evs ((g ds s').bnd _) Q at h'
  generalize g ds s' = q at h'
  cases q with
  | bad => exact h'
  | err e s2 => exact fun cls dd F2 H2 e2 o2 rx => h' cls dd F2 H2 (S'.ext.trans e2) o2 rx
  | ok d s2 => exact fun v F2 H2 e2 o2 rd => h' v F2 H2 _ ((S'.step e2 o2).push rd)
end
section
variable {ρ : Sts} {s : FS} {QV : EV × Sts → FS → Prop} {g : List D → M D} {fl : Sts → M (List D × Sts)} {Q : Fl × Sts → FS → Prop}
instance : RmStep (vCall g fl ρ) s QV (Rm (fl ρ) s fun q s => Rm (g q.1) s fun d s => QV (.d d, q.2) s) := ⟨fun h => Rm.bind (h.mono fun _ _ h => Rm.bindP h)⟩
instance {i : Nat} {tab : List (Str × (List D → M D))} {f : Env' → M D} {fl : Env' → M (List D)} {b : D → Option Asg} : RmStep (gRule i tab f fl b ρ) s Q (i < ρ.length ∧ Rm (f (mask ρ)) s fun k s => Rm (M.lift (strOf k)) s fun z s => Rm (M.lift (tab.lookup z)) s fun g s => Rm (fl (mask (ρ.set i .no))) s fun xs s => Rm (g xs) s fun r s => Rm (M.lift (b r)) s fun as s => Q (.nx, setS as (ρ.set i .no)) s) := ⟨fun ⟨h1, h2⟩ => by
  unfold gRule
  rw [if_pos h1]
  exact Rm.bind (h2.mono fun _ _ h => Rm.bind (h.mono fun _ _ h => Rm.bind (h.mono fun _ _ h => Rm.bind (h.mono fun _ _ h => Rm.bind (h.mono fun _ _ h => Rm.bindP h)))))⟩
end
end DL

set_option Elab.async false
set_option linter.all false
set_option maxRecDepth 100000
set_option maxHeartbeats 1000000
/-! The data layer: a, b = a list. -/
namespace DL
open PySem PySem.Spec PyProof.Rows L2
/-- a list taken apart -/
def bLst (b : List D → Option Asg) : D → Option Asg := fun x => match x with
  | .lst xs => b xs
  | _ => none
section
variable {X : Cx} {es : List Expr} {pos : Pos} {ns : List Nat} {bs : List D → Option Asg}
theorem tj_lst {k : Nat} {n : Nat} (hc : X.calm = true) (h : TsJ X es ns bs) (hl : ∀ xs as, bs xs = some as → xs.length = n) (hn : (assignEach es X.env).length = n := by rfl) (hst : (assignEach es X.env).findIdx? (·.1) = none := by rfl) : TJ X (.Tuple es k pos) ns (bLst bs) := by
  obtain ⟨g, p, kk⟩ := h
  refine ⟨_, pg_unl hc p hn hst, fun fa F H x v σ Q as h r e q => ?_⟩
  cases r with
  | lst ht rl => exact ⟨_, _, rfl, SqL.of (h _ _ ht), by rw [← rl.length]; exact hl _ _ e, kk fa F H _ _ σ Q as h rl e q⟩
  | _ => cases e
end
end DL

set_option Elab.async false
set_option linter.all false
set_option maxRecDepth 100000
set_option maxHeartbeats 1000000
/-! The data layer: min of a list. -/
namespace DL
open PySem PySem.Spec PyProof.Rows L2
def minL : List Int → Int
  | [] => 0
  | [x] => x
  | x :: y :: r => if x ≤ minL (y :: r) then x else minL (y :: r)
theorem minL_le : ∀ {ns : List Int}, ∀ y ∈ ns, minL ns ≤ y
  | [], y, h => by simp at h
  | [x], y, h => by rw [List.mem_singleton.mp h]; exact Int.le_refl _
  | x :: z :: r, y, h => by
    have ih := minL_le (ns := z :: r)
    show (if x ≤ minL (z :: r) then x else minL (z :: r)) ≤ y
    rcases List.mem_cons.mp h with e | e
    · subst e; split <;> omega
    · have := ih y e; split <;> omega
theorem minL_mem : ∀ {ns : List Int}, ns ≠ [] → minL ns ∈ ns
  | [], h => absurd rfl h
  | [x], _ => List.mem_cons_self
  | x :: z :: r, _ => by
    have ih := minL_mem (ns := z :: r) (by simp)
    show (if x ≤ minL (z :: r) then x else minL (z :: r)) ∈ _
    split
    · exact List.mem_cons_self
    · exact List.mem_cons_of_mem _ ih
theorem minL_uniq {ns : List Int} {m : Int} (h0 : m ∈ ns) (h : ∀ y ∈ ns, m ≤ y) : m = minL ns := by
  have h1 := minL_le m h0
  have h2 := h _ (minL_mem (ns := ns) (by intro e; rw [e] at h0; simp at h0))
  omega
def minLD : List D → Option D
  | [.lst xs] => (intsD xs).bind fun ns => if ns = [] then none else some (.int (minL ns))
  | _ => none
section
variable {X : Cx} {fa : Option FA}
theorem ok_minL : CallOk X fa (rMin X.K) minLD := by
  intro F H s xs as Q h1 h2 r h
  cases r with
  | nil => exact h.elim
  | cons r t =>
    cases t with
    | cons _ _ => cases r <;> exact h.elim
    | nil =>
      cases r with
      | @lst p xs vs hq r =>
        change GoodO X fa F H s ((intsD xs).bind fun ns => if ns = [] then none else some (.int (minL ns))) Q at h
        cases q : intsD xs with
        | none => rw [q] at h; exact h.elim
        | some ns =>
          rw [q] at h
          change GoodO X fa F H s (if ns = [] then none else some (.int (minL ns))) Q at h
          by_cases hn : ns = []
          · rw [if_pos hn] at h; exact h.elim
          · rw [if_neg hn] at h
            refine ⟨p, ns, rfl, ?_, List.length_pos_iff.mpr hn, fun m hm hle => ?_⟩
            · rw [← intsD_rep q r]
              exact SqL.of (h1 _ _ hq)
            · rw [minL_uniq hm hle]
              exact GoodO.here h1 h2 (.int _) h
      | _ => exact h.elim
end
end DL

set_option Elab.async false
set_option linter.all false
set_option maxRecDepth 100000
set_option maxHeartbeats 1000000
/-! enumerate over a text. -/
namespace ES
open PySem
open PySem.Sem (wp)
open PySem.AutoSeq1 (wpAny_loadPart')
section
variable {prog : Program} {w : World} {A : Around} {E : Value → Shared → Prop} {s : Shared}
theorem nextOfS_item {ty : String} (hty : ty = "str_ascii_iterator" ∨ ty = "str_iterator") {it : Addr} {x : Str} {t : Tok} {i c : Nat} {Q : Value → Shared → Prop} (hit : s.heap.IsStrIter it ty x t i) (hx : x.cps[i]? = some c)
    (hQ : ∀ h', h'.IsStrIter it ty x t (i + 1) → Heap.SameBut it s.heap h' → Q (.str ⟨#[c]⟩ s.toks) { s with heap := h', toks := s.toks + 1 }) :
    wpAny (model prog w) A (Builtin.SmallTypes.nextOf (.ref it)) Q E s := by
  rcases hty with rfl | rfl
  · exact wpAny_nextOf_ascii_item hit hx hQ
  · exact wpAny_nextOf_wide_item hit hx hQ
theorem nextOfS_end {ty : String} (hty : ty = "str_ascii_iterator" ∨ ty = "str_iterator") {it : Addr} {x : Str} {t : Tok} {i : Nat} {Q : Value → Shared → Prop} (hh : A.handled = none)
    (hit : s.heap.IsStrIter it ty x t i) (hx : x.cps[i]? = none)
    (hE : ∀ h' e, Heap.ExtBut it s.heap h' → (∃ o, h'.get? e = some o ∧ o.cls = .type "StopIteration") → E (.ref e) { s with heap := h' }) :
    wpAny (model prog w) A (Builtin.SmallTypes.nextOf (.ref it)) Q E s := by
  rcases hty with rfl | rfl
  · exact wpAny_nextOf_ascii_end hh hit hx hE
  · exact wpAny_nextOf_wide_end hh hit hx hE
theorem enumS_next_item {ty : String} (hty : ty = "str_ascii_iterator" ∨ ty = "str_iterator") {e it : Addr} {i c : Nat} {z : Str} {t : Tok} {old : Value} {Q : Value → Shared → Prop}
    (he : IsEnum s.heap e it i old) (hit : s.heap.IsStrIter it ty z t i) (hx : z.cps[i]? = some c) (hne : e ≠ it)
    (hQ : ∀ h', IsEnumOut h' e it ((i : Int) + 1) (.str ⟨#[c]⟩ s.toks) s.heap.objs.size → h'.IsStrIter it ty z t (i + 1) →
      h'.get? s.heap.objs.size = some { cls := .type "tuple", data := .seq #[.int i (s.toks + 1), .str ⟨#[c]⟩ s.toks] } → h'.objs.size = s.heap.objs.size + 1 →
      (∀ b o, b ≠ e → b ≠ it → s.heap.get? b = some o → h'.get? b = some o) → Q (.ref s.heap.objs.size) { s with heap := h', toks := s.toks + 1 + 1 }) :
    wpAny (model prog w) A (Builtin.«enumerate.__next__» ⟨[.ref e], []⟩) (fun fin s' => ∃ v, fin = .done (.ret v) ∧ Q v s') E s := by
  obtain ⟨hp, g, d, tk, os⟩ := s
  show wpAny _ _ (field (.ref e) 2 >>= _) _ _ _
  refine wpAny_bind (wpAny_field he rfl (x := .ref it) rfl ?_)
  refine wpAny_bind (nextOfS_item hty hit hx fun h₁ hit₁ hs₁ => ?_)
  replace hs₁ : Heap.SameBut it hp h₁ := hs₁
  have he₁ : IsEnum h₁ e it i old := (hs₁.2 e hne).trans he
  show wpAny _ _ (field (.ref e) 3 >>= _) _ _ ⟨h₁, g, d, tk + 1, os⟩
  refine wpAny_bind (wpAny_field he₁ rfl (x := rawInt i) rfl ?_)
  show wpAny _ _ (field (.ref e) 4 >>= _) _ _ ⟨h₁, g, d, tk + 1, os⟩
  refine wpAny_bind (wpAny_field he₁ rfl (x := .none) rfl ?_)
  show wpAny _ _ (mkInt i >>= _) _ _ ⟨h₁, g, d, tk + 1, os⟩
  refine wpAny_bind (wpAny_mkInt ?_)
  show wpAny _ _ (setField (.ref e) 3 (rawInt ((i : Int) + 1)) >>= _) _ _ ⟨h₁, g, d, tk + 1 + 1, os⟩
  refine wpAny_bind (wpAny_setField_rec he₁ (by simp) fun h₂ he₂ hs₂ => ?_)
  replace hs₂ : Heap.SameBut e h₁ h₂ := hs₂
  replace he₂ : IsEnum h₂ e it ((i : Int) + 1) old := he₂
  show wpAny _ _ (setField (.ref e) 4 .none >>= _) _ _ ⟨h₂, g, d, tk + 1 + 1, os⟩
  refine wpAny_bind (wpAny_setField_rec he₂ (by simp) fun h₃ he₃ hs₃ => ?_)
  replace hs₃ : Heap.SameBut e h₂ h₃ := hs₃
  replace he₃ : IsEnum h₃ e it ((i : Int) + 1) old := he₃
  show wpAny _ _ (newTuple [.int i (tk + 1), .str ⟨#[c]⟩ tk] >>= _) _ _ ⟨h₃, g, d, tk + 1 + 1, os⟩
  refine wpAny_bind (wpAny_newTuple ?_)
  have he₄ : IsEnum (h₃.push { cls := .type "tuple", data := .seq #[.int i (tk + 1), .str ⟨#[c]⟩ tk] }) e it ((i : Int) + 1) old := Heap.get?_push_of_some _ he₃
  generalize hh₄ : h₃.push { cls := .type "tuple", data := .seq #[.int i (tk + 1), .str ⟨#[c]⟩ tk] } = h₄ at he₄
  have hsz : h₃.objs.size = hp.objs.size := by rw [hs₃.1, hs₂.1, hs₁.1]
  have hel : e < hp.objs.size := Heap.lt_size he
  have ht₄ : h₄.get? hp.objs.size = some { cls := .type "tuple", data := .seq #[.int i (tk + 1), .str ⟨#[c]⟩ tk] } := by rw [← hh₄, ← hsz]; exact Heap.get?_push_size _ rfl
  have hz₄ : h₄.objs.size = hp.objs.size + 1 := by rw [← hh₄, Heap.size_push, hsz]
  have hk₄ : ∀ b o, b ≠ e → b ≠ it → hp.get? b = some o → h₄.get? b = some o := fun b o hbe hbi hb => by
    rw [← hh₄]; exact Heap.get?_push_of_some _ (hs₃.extBut b o hbe (hs₂.extBut b o hbe (hs₁.extBut b o hbi hb)))
  have hit₄ : h₄.IsStrIter it ty z t (i + 1) := by
    rw [← hh₄]; obtain ⟨o, ho, r⟩ := (hit₁.extBut hs₂.extBut (Ne.symm hne)).extBut hs₃.extBut (Ne.symm hne); exact ⟨o, Heap.get?_push_of_some _ ho, r⟩
  show wpAny _ _ (Builtin.SmallTypes.ownedTupleIsFree (.ref e) >>= _) _ _ ⟨h₄, g, d, tk + 1 + 1, os⟩
  rw [hsz]
  clear hh₄ he₃ hs₃ he₂ hs₂ he₁ hs₁ hit₁ hsz h₃ h₂ h₁
  refine wpAny_bind ?_
  · unfold Builtin.SmallTypes.ownedTupleIsFree
    refine wpAny_bind (wpAny_field he₄ rfl (x := .none) rfl (wpAny_pure ?_))
    simp only [if_true]
    refine wpAny_bind (wpAny_rule ?_)
    refine wpAny_bind (wpAny_field he₄ rfl (x := old) rfl ?_)
    refine wpAny_bind (wpAny_setField_rec he₄ (by simp) fun h₅ he₅ hs₅ => ?_)
    replace hs₅ : Heap.SameBut e h₄ h₅ := hs₅
    replace he₅ : IsEnum h₅ e it ((i : Int) + 1) (.str ⟨#[c]⟩ tk) := he₅
    show wpAny _ _ (Builtin.SmallTypes.ownedTupleHandOut (.ref e) (.ref hp.objs.size) >>= _) _ _ ⟨h₅, g, d, tk + 1 + 1, os⟩
    refine wpAny_bind ?_
    · unfold Builtin.SmallTypes.ownedTupleHandOut
      refine wpAny_bind (wpAny_setField_rec he₅ (by simp) fun h₆ he₆ hs₆ => ?_)
      replace hs₆ : Heap.SameBut e h₅ h₆ := hs₆
      replace he₆ : IsEnumOut h₆ e it ((i : Int) + 1) (.str ⟨#[c]⟩ tk) hp.objs.size := he₆
      refine wpAny_setField_rec he₆ (by simp) fun h₇ he₇ hs₇ => ?_
      replace hs₇ : Heap.SameBut e h₆ h₇ := hs₇
      replace he₇ : IsEnumOut h₇ e it ((i : Int) + 1) (.str ⟨#[c]⟩ tk) hp.objs.size := he₇
      refine wpAny_bind (wpAny_letGo (wpAny_pure ⟨_, rfl, hQ h₇ he₇ ?_ ?_ ?_ ?_⟩))
      · exact ((hit₄.extBut hs₅.extBut (Ne.symm hne)).extBut hs₆.extBut (Ne.symm hne)).extBut hs₇.extBut (Ne.symm hne)
      · exact hs₇.extBut _ _ (Nat.ne_of_gt hel) (hs₆.extBut _ _ (Nat.ne_of_gt hel) (hs₅.extBut _ _ (Nat.ne_of_gt hel) ht₄))
      · rw [hs₇.1, hs₆.1, hs₅.1, hz₄]
      · exact fun b o hbe hbi hb => hs₇.extBut b o hbe (hs₆.extBut b o hbe (hs₅.extBut b o hbe (hk₄ b o hbe hbi hb)))

theorem pyNext_enumS_item {ty : String} (hty : ty = "str_ascii_iterator" ∨ ty = "str_iterator") {e it : Addr} {i c : Nat} {z : Str} {t : Tok} {old : Value} {Q : Option Value → Shared → Prop}
    (he : IsEnum s.heap e it i old) (hit : s.heap.IsStrIter it ty z t i) (hx : z.cps[i]? = some c) (hne : e ≠ it)
    (hQ : ∀ h', IsEnumOut h' e it ((i : Int) + 1) (.str ⟨#[c]⟩ s.toks) s.heap.objs.size → h'.IsStrIter it ty z t (i + 1) →
      h'.get? s.heap.objs.size = some { cls := .type "tuple", data := .seq #[.int i (s.toks + 1), .str ⟨#[c]⟩ s.toks] } → h'.objs.size = s.heap.objs.size + 1 →
      (∀ b o, b ≠ e → b ≠ it → s.heap.get? b = some o → h'.get? b = some o) → Q (some (.ref s.heap.objs.size)) { s with heap := h', toks := s.toks + 1 + 1 }) :
    wpAny (model prog w) A (pyNext (.ref e)) Q E s := by
  have hT : s.TypeIs (.ref e) "enumerate" := ⟨_, he, rfl⟩
  unfold pyNext
  exact wpAny_bind (wpAny_attempt (wpAny_callSpecial?_slot (name := Str.ofString "__next__") hT F.slot_enumerate_next
    (wpAny_call_entry F.slot_enumerate_next hT F.entry_enumerate_next
      (enumS_next_item hty he hit hx hne fun h' a b c d k => wpAny_pure (hQ h' a b c d k)) (F.args_enumerate_next_1 _))))
theorem pyNext_enumS_end {ty : String} (hty : ty = "str_ascii_iterator" ∨ ty = "str_iterator") {e it : Addr} {i : Nat} {z : Str} {t : Tok} {old : Value} {Q : Option Value → Shared → Prop} (hh : A.handled = none)
    (he : IsEnum s.heap e it i old) (hit : s.heap.IsStrIter it ty z t i) (hx : z.cps[i]? = none)
    (hQ : ∀ h', Heap.ExtBut it s.heap h' → Q none { s with heap := h' }) : wpAny (model prog w) A (pyNext (.ref e)) Q E s := by
  have hT : s.TypeIs (.ref e) "enumerate" := ⟨_, he, rfl⟩
  unfold pyNext
  refine wpAny_bind (wpAny_attempt (wpAny_callSpecial?_slot (name := Str.ofString "__next__") hT F.slot_enumerate_next
    (wpAny_call_entry F.slot_enumerate_next hT F.entry_enumerate_next ?_ (F.args_enumerate_next_1 _))))
  show wpAny _ _ (field (.ref e) 2 >>= _) _ _ _
  refine wpAny_bind (wpAny_field he rfl (x := .ref it) rfl ?_)
  refine wpAny_bind (nextOfS_end hty hh hit hx fun h' x he' hx' => ?_)
  obtain ⟨o, ho, hc⟩ := hx'
  refine wpAny_bind (wpAny_isInstance (T := "StopIteration") (b := true) ⟨o, ho, hc⟩ isSubtype_stop ?_)
  exact wpAny_pure (hQ _ he')
end
end ES
namespace ES
open PySem PySem.Spec PyProof.Rows L2
/-- a text, sign by sign, each in a new pair -/
def IteS (z : Str) : It :=
  ⟨fun i _ => i < z.cps.size, fun i H v H' => ∃ T c, v = .ref T ∧ H T = none ∧ H' = upd H T (.tup [.int (i : Nat), .str ⟨#[c]⟩]) ∧ z.cps[i]? = some c, fun i _ => z.cps.size ≤ i⟩
theorem turn_enumS {P : Program} {w : World} {K : PySem.W.Frag} {elts : List Expr} {kk : Nat} {tpos : Pos} {ty : String} (hty : ty = "str_ascii_iterator" ∨ ty = "str_iterator") (z : Str) (t : Tok) (e it : Addr) :
    Turn P w K (.Tuple elts kk tpos) (IteS z) [e, it] e (fun i h => (∃ old, IsEnum h e it ((i : Nat) : Int) old) ∧ h.IsStrIter it ty z t i ∧ e ≠ it) where
  mem := by simp
  obj := fun i h st b hb => by
    obtain ⟨⟨old, he⟩, ⟨o, ho, hc, hd⟩, _⟩ := st
    have e' : b = e ∨ b = it := by simpa using hb
    rcases e' with z | z
    · rw [z]; exact ⟨_, he, fun v q => nomatch q⟩
    · rw [z]; exact ⟨o, ho, fun v q => by rw [hd] at q; cases q⟩
  keep := fun i h h' st k => let ⟨⟨old, he⟩, ⟨o, ho, r⟩, hne⟩ := st; ⟨⟨old, k e (by simp) _ he⟩, ⟨o, k it (by simp) o ho, r⟩, hne⟩
  item := by
    intro X hP hw hK hc i pins s σ H E I hf st hg
    subst hP hw hK
    obtain ⟨⟨old, he⟩, hit, hne⟩ := st
    have hg : i < z.cps.size := hg
    have hx : z.cps[i]? = some z.cps[i] := Array.getElem?_eq_getElem hg
    have hel : e < s.heap.objs.size := Heap.lt_size he
    have hil : it < s.heap.objs.size := by obtain ⟨_, q, _⟩ := hit; exact Heap.lt_size q
    refine pyNext_enumS_item hty he hit hx hne fun h' ho hit' hT hsz hk => ?_
    refine ⟨_, rfl, wpAny_letOwnedTupleGo_enum (s := { s with heap := h', toks := s.toks + 1 + 1 }) ho fun h'' he' sb => ?_⟩
    have hT2 : h''.get? s.heap.objs.size = some { cls := .type "tuple", data := .seq #[.int i (s.toks + 1), .str ⟨#[z.cps[i]]⟩ s.toks] } := (sb.2 _ (Nat.ne_of_gt hel)).trans hT
    have new : ObjOk X.prog X.w (upd H s.heap.objs.size (.tup [.int (i : Nat), .str ⟨#[z.cps[i]]⟩])) h'' s.heap.objs.size (.tup [.int (i : Nat), .str ⟨#[z.cps[i]]⟩]) :=
      ⟨by show 2 ≤ sizeLine; decide, [.int i (s.toks + 1), .str ⟨#[z.cps[i]]⟩ s.toks], .cons ⟨_, rfl⟩ (.cons ⟨_, rfl⟩ .nil), ⟨_, hT2, rfl, _, rfl⟩⟩
    have I1 : Inv X pins σ (upd H s.heap.objs.size (.tup [.int (i : Nat), .str ⟨#[z.cps[i]]⟩])) { s with heap := h'', toks := s.toks + 1 + 1 } :=
      I.turnedNew (ch := [e, it]) (fun b ob hb q => (sb.2 b (fun z => hb (by simp [z]))).trans (hk b ob (fun z => hb (by simp [z])) (fun z => hb (by simp [z])) q)) hf (Nat.le_refl _) new
    refine ⟨.ref s.heap.objs.size, _, I1, rfl, ⟨_, z.cps[i], rfl, I.hok.fresh (Nat.le_refl _), rfl, hx⟩, ⟨⟨.str ⟨#[z.cps[i]]⟩ s.toks, ?_⟩, ?_, hne⟩, fun b hb => ?_⟩
    · have e1 : ((i + 1 : Nat) : Int) = (i : Int) + 1 := by omega
      rw [e1]; exact he'
    · obtain ⟨o, ho2, r⟩ := hit'
      exact ⟨o, (sb.2 it (Ne.symm hne)).trans ho2, r⟩
    · have hb' : b < s.heap.objs.size := by
        have e' : b = e ∨ b = it := by simpa using hb
        rcases e' with z | z
        · rw [z]; exact hel
        · rw [z]; exact hil
      rw [upd_ne (Nat.ne_of_lt hb')]
      exact (hf b hb).1
  done := by
    intro X hP hw hK hc i pins s σ H E I hf st hg
    subst hP hw hK
    obtain ⟨⟨old, he⟩, hit, hne⟩ := st
    have hg : z.cps.size ≤ i := hg
    obtain ⟨f0, f1, f2, f3, f4, f5⟩ := hf it (by simp)
    exact pyNext_enumS_end hty (I.ok.hd hc) he hit (Array.getElem?_eq_none hg) fun h' eb => ⟨rfl, I.turned (t' := s.toks) (fun b o hb q => eb b o hb q) f0 f1 f3 f4 f5⟩
  self := fun A i s Q E st h => let ⟨⟨_, he⟩, _⟩ := st; wpAny_pyIter_enum he h
def iEnumS (ta : TA) : TI := fun σ H R => ta σ H fun vs H1 => ∃ z, vs = [.str z] ∧ R (IteS z) H1
theorem pi_enumS {X : Cx} {e : Expr} {ta : TA} {p pos tpos : Pos} {elts : List Expr} {kk : Nat} (hg : Gl X "enumerate") (hm : X.mg "enumerate" = none) (ha : PA X [e] ta) (hs : starEach [e] X.env = [(false, eval e X.env)] := by rfl) :
    PI X (.Tuple elts kk tpos) (.Call (.Name "enumerate" p) [e] [] pos) (iEnumS ta) := by
  refine ⟨fun pins s σ H R I h => ?_⟩
  refine Call_ (ld_blt I hg hm boot_enumerate (PyProof.Rows.callWith_type1 (thn (ha.run pos pins s σ H _ I h) fun us s1 ⟨vs, H1, I1, r1, q1⟩ => ?_) hs rfl))
  obtain ⟨z, ex, q⟩ := q1
  subst ex
  cases r1 with
  | cons r rr =>
    cases rr
    obtain ⟨t, rfl⟩ := r
    have hty : strIterType z = "str_ascii_iterator" ∨ strIterType z = "str_iterator" := by
      unfold strIterType
      split
      · exact .inl rfl
      · exact .inr rfl
    refine call_enumerate_str fun h' he hit hsz hk => wpAny_pyIter_enum he ?_
    have I2 : Inv X pins σ H1 { s1 with heap := h' } := I1.kept (t' := s1.toks) hk
    refine ⟨s1.heap.objs.size + 1, [s1.heap.objs.size + 1, s1.heap.objs.size], _, _, H1, rfl, I2, turn_enumS hty z t (s1.heap.objs.size + 1) s1.heap.objs.size, ⟨⟨.none, he⟩, hit, Nat.succ_ne_self _⟩, fun b hb => ?_, q⟩
    have e' : b = s1.heap.objs.size + 1 ∨ b = s1.heap.objs.size := by simpa using hb
    have hle : s1.heap.objs.size ≤ b := by
      rcases e' with z | z
      · rw [z]; exact Nat.le_add_right _ _
      · rw [z]; exact Nat.le_refl _
    exact I1.fpOk hle (I1.hok.fresh hle)
end ES

set_option Elab.async false
set_option linter.all false
set_option maxRecDepth 100000
set_option maxHeartbeats 1000000
/-! The data layer: enumerate over a text. -/
namespace DL
open PySem PySem.Spec PyProof.Rows L2
def enmS : List D → Option (List D)
  | [.str z] => some (enumD 0 (signsD z))
  | _ => none
theorem walk_enumS {z : Str} : Walk (ES.IteS z) (signsD z).length (fun _ => True) (YPair (fun i => some (.int (i : Nat))) (fun i => z.cps[i]?.map fun c => .str ⟨#[c]⟩)) := by
  have hl : (signsD z).length = z.cps.size := by simp [signsD]
  refine ⟨fun i _ hi _ => by rw [hl] at hi; exact hi, fun _ _ => Nat.le_of_eq hl.symm, fun i H v H' _ q y => ?_⟩
  obtain ⟨T, c, h1, h2, h3, h4⟩ := y
  exact ⟨T, .int (i : Nat), .str ⟨#[c]⟩, h1, h2, h3, rfl, by simp [h4]⟩
section
variable {X : Cx} {fa : Option FA} {Wσ : L2.St → XK} {e : Expr} {p pos : Pos} {fl : Env' → M (List D)}
theorem ij_enumS {elts : List Expr} {kk : Nat} {tpos : Pos} (hm : X.mg "enumerate" = none) (ha : LD X fa Wσ [e] fl) (hg : Gl X "enumerate" := by rfl) (hs : starEach [e] X.env = [(false, eval e X.env)] := by rfl) : IJ X fa Wσ (.Tuple elts kk tpos) (.Call (.Name "enumerate" p) [e] [] pos) (iFn enmS fl) := by
  obtain ⟨t, q, k⟩ := ha
  refine ⟨_, ES.pi_enumS hg hm q hs, fun σ F H ρ s R h1 h2 h3 hg => ?_⟩
  refine k.then GoodI.tgt h1 h2 h3 hg fun x s1 v F1 H1 e1 o1 r1 v1 h' => ?_
  change GoodI X fa (Wσ σ) F1 H1 (M.lift (enmS x) s1) R at h'
  cases r1 with
  | nil => exact h'.elim
  | cons r rr =>
    cases rr with
    | cons _ _ => cases r <;> exact h'.elim
    | nil =>
      cases r with
      | str z =>
        refine ⟨z, rfl, h' _ F1 H1 (Ext.refl e1.fh) o1 (wj_pair (xs := enumD 0 (signsD z)) (by rw [enumD_len]; exact walk_enumS) (fun _ _ _ _ => trivial) fun i x hx => ?_)⟩
        rw [enumD_get] at hx
        cases qx : (signsD z)[i]? with
        | none => rw [qx] at hx; cases hx
        | some y =>
          rw [qx] at hx
          cases hx
          refine ⟨_, _, rfl, fun F2 v h1 hv => ?_, fun F2 v h1 hv => ?_⟩
          · cases hv
            rw [Nat.zero_add]
            exact .int _
          · unfold signsD at qx
            rw [List.getElem?_map, Array.getElem?_toList] at qx
            cases qc : z.cps[i]? with
            | none => rw [qc] at hv; cases hv
            | some c =>
              rw [qc] at hv qx
              cases hv
              cases qx
              exact .str _
      | _ => exact h'.elim
end
end DL

set_option Elab.async false
set_option linter.all false
set_option maxRecDepth 100000
set_option maxHeartbeats 1000000
/-! The data layer: the truth of an instance whose class has its own __bool__; bool(an instance). -/
namespace BI
open PySem PySem.Spec PyProof.Rows
section
variable {prog : Program} {w : World} {A : Around} {E : Value → Shared → Prop} {s : Shared}
theorem bool_own {x : Value} {Q : Value → Shared → Prop} (h : wpAny (model prog w) A.in1.in1 (truthy x) (fun b s' => Q (.bool b) s') E s) : wpAny (model prog w) A (call (.type "bool") [x]) Q E s := by
  refine callType_codes (T := "bool") (Bi := Builtin.«object.__init__») (Q₁ := fun r s₁ => ∃ b, r = Value.bool b ∧ Q r s₁) PySem.F.called_bool (PySem.F.typeCall_bool_1 _) PySem.F.entry_object_init ?_ ?_
  · refine codeAny_of_tree ?_
    show wpAny _ A.in1.in1 (do checkBuiltinCall "bool.__new__" ⟨[.type "bool", x], []⟩; again (.builtin "bool.__new__" ⟨[.type "bool", x], []⟩)) _ _ s
    refine wpAny_bind (wpAny_of_eq (PySem.F.newCall_bool_1 _) (wpAny_pure ⟨plainId_quiet (by decide +kernel) _, codeAny_builtin PySem.F.entry_bool_new ?_⟩))
    rw [Around.under_plainId (by decide +kernel) _]
    unfold Builtin.«bool.__new__»
    refine wpAny_bind (wpAny_of_eq (a := true) (by rfl) ?_)
    refine PySem.W.KFB.if_not rfl ?_
    refine wpAny_bind (wpAny_of_eq (a := true) PySem.F.conv_sub_bool ?_)
    refine PySem.W.KFB.if_not rfl ?_
    refine wpAny_bind (m := someArgs "bool" 0 1 _) (wpAny_pure ?_)
    refine wpAny_bind (wpAny_mono h (fun b s₁ hr => ?_) fun _ _ y => y)
    exact wpAny_pure ⟨b, rfl, hr⟩
  · rintro obj s₁ ⟨b, rfl, hq⟩
    exact ⟨PySem.typeIs_bool _ _, PySem.F.args_object_init_2 _ _, object_init_meets PySem.F.called_bool.init.lookup PySem.F.called_bool.made (by decide) prog w A.in1 _ s₁ ⟨PySem.typeIs_bool _ _, rfl, hq⟩⟩
end
end BI
namespace DL
open PySem PySem.Spec PyProof.Rows L2
def cBl (f : Env' → M D) : Env' → M Bool := fun ρ => (f ρ).bind fun x => M.lift (blD x)
def bl1 : D → Option D
  | .bl b => some (.bl b)
  | _ => none
def dBl (f : Env' → M D) : Env' → M D := fun ρ => (f ρ).bind fun x => M.lift (bl1 x)
section
variable {X : Cx} {pins : List (Addr × Obj)} {σ : L2.St} {H : Hp} {s : Shared} {a C dx f : Addr} {fs : List (Str × V)}
theorem truthy_ins {A : Around} {E : Value → Shared → Prop} {Q : Bool → Shared → Prop} (I : Inv X pins σ H s) (e : H a = some (.ins C dx fs)) (k : Meth X.K C "__bool__" f)
    (h : wpAny (model X.prog X.w) A (call (.ref f) [.ref a]) (fun v s' => ∃ b, v = .bool b ∧ Q b s') E s) : wpAny (model X.prog X.w) A (truthy (.ref a)) Q E s := by
  obtain ⟨mA, O, r, _, _, _⟩ := ins_get I.hok e
  obtain ⟨od, J, hl⟩ := O.look
  unfold truthy
  refine wpAny_bind (m := callSpecial? (.ref a) (Str.ofString "__bool__")) (PySem.W.special_fn I.kIn J k.at_ (beq_iff_eq.mp k.fn) (wpAny_mono h (fun r s' hr => ?_) fun _ _ y => y))
  obtain ⟨b, rfl, hq⟩ := hr
  exact wpAny_pure hq
end
section
variable {X : Cx} {fa : Option FA} {W : L2.St → XK} {o : Expr} {k : Nat} {ta : TE} {f1 : Env' → M D} {pos : Pos}
def tBoolI (X : Cx) (k : Nat) (W : L2.St → XK) (ta : TE) : TT := fun σ H Q => ta σ H fun x H1 => ∃ a C dx fs, x = .ref a ∧ H1 a = some (.ins C dx fs) ∧ ∃ f fd ps sp, Meth X.K C "__bool__" f ∧ FnOk X.prog X.w X.K X.mg X.base (L2.CX X.prog X.w) k f fd ps sp ∧ Binds X.K fd ps [] ∧ sp [x] H1 (fun v H' => ∃ b, v = .bl b ∧ Q b H') (W σ)
theorem pt_boolI (he : PE X o ta) (hr : Room k X.A) (hx : ∀ σ, PassesAt (L2.CX X.prog X.w) X σ (W σ)) (hi : ∀ whole, isTrue o X.env whole = (do let v ← whole; standAt o.pos; holding [v] (truthy v))) : PT X o (tBoolI X k W ta) := by
  refine ⟨fun pins s σ H Q I h => isTrue_plain (thn (he.run pins s σ H _ I h) fun u s1 ⟨x, H1, I1, rx, a, C, dx, fs, ex, ea, f, fd, ps, sp, hm, F, hb, q⟩ => ?_) (hi _)⟩
  subst ex
  obtain rfl : u = Value.ref a := rx
  refine truthy_ins I1 ea hm (wpAny_mono (run_fnS (us := [.ref a]) (vs := [.ref a]) F hr hb (hx σ) I1 (.cons rfl .nil) q) (fun r s' hr => ?_) fun _ _ y => y)
  obtain ⟨v, H2, I2, rv, b, rfl, q2⟩ := hr
  cases rv
  exact ⟨b, rfl, H2, I2, q2⟩
theorem bl_split {g : D → M D} {h : D → Option D} {tab : List (Str × (List D → M D))} : True := trivial
theorem meth_bl {α : Type} {β : D → Option α} {tab : List (Str × (List D → M D))} {m : Str} (ρ : Env') (s : FS) : ((dMeth tab m f1 lNil ρ).bind fun y => M.lift (β y)) s = (f1 ρ s).bnd fun x s1 => ((M.lift (methOf tab m x)).bind fun g => (g [x]).bind fun y => M.lift (β y)) s1 := by
  show (((f1 ρ s).bnd fun x s1 => ((M.lift (methOf tab m x)).bind fun g => (lNil ρ).bind fun xs => g (x :: xs)) s1).bnd fun y s2 => M.lift (β y) s2) = _
  cases f1 ρ s with
  | bad => rfl
  | err e s1 => rfl
  | ok x s1 =>
    show ((((M.lift (methOf tab m x)).bind fun g => (lNil ρ).bind fun xs => g (x :: xs)) s1).bnd fun y s2 => M.lift (β y) s2) = ((M.lift (methOf tab m x)).bind fun g => (g [x]).bind fun y => M.lift (β y)) s1
    cases methOf tab m x with
    | none => rfl
    | some g => rfl
theorem td_boolI {tab : List (Str × (List D → M D))} (hr : Room k X.A) (hx : ∀ σ, PassesAt (L2.CX X.prog X.w) X σ (W σ)) (ht : ∀ q ∈ tab, MOk X.prog X.w X.K X.mg X.base k q.1 "__bool__" q.2) (ho : ED X fa W o f1)
    (hi : ∀ whole, isTrue o X.env whole = (do let v ← whole; standAt o.pos; holding [v] (truthy v)) := by intro _; rfl) : TD X fa W o (cBl (dMeth tab "__bool__" f1 lNil)) := by
  obtain ⟨to, po, ko⟩ := ho
  refine ⟨_, pt_boolI po hr hx hi, fun σ F H ρ s Q h1 h2 h3 h => ?_⟩
  have h : GoodB X fa (W σ) F H ((f1 ρ s).bnd fun x s1 => ((M.lift (methOf tab "__bool__" x)).bind fun g => (g [x]).bind fun y => M.lift (blD y)) s1) Q := by
    rw [← meth_bl]
    exact h
  refine ko.then GoodB.tgt h1 h2 h3 h fun x s1 v F1 H1 e1 o1 r1 v1 h' => ?_
  cases q : methOf tab "__bool__" x with
  | none => rw [q] at h'; exact h'.elim
  | some g =>
    rw [q] at h'
    obtain ⟨a, C, dx, fs, rfl, ea, f, fd, ps, cc, hm, Fn, hb, l⟩ := meth_of e1.fh ht q r1
    refine ⟨a, C, dx, fs, rfl, ea, f, fd, ps, _, hm, Fn, hb, fa, F1, s1, [x], e1.fh, o1, .cons r1 .nil, ?_⟩
    change GoodB X fa (W σ) F1 H1 ((g [x] s1).bnd fun y s2 => M.lift (blD y) s2) Q at h'
    show Good X fa (W σ) F1 H1 (g [x] s1) _
    cases r : g [x] s1 with
    | bad => rw [r] at h'; exact h'.elim
    | err e s2 => rw [r] at h'; exact h'
    | ok d s2 =>
      rw [r] at h'
      change GoodB X fa (W σ) F1 H1 (M.lift (blD d) s2) Q at h'
      intro v F2 H2 e2 o2 r2
      cases d with
      | bl b =>
        cases r2
        exact ⟨b, rfl, h' F2 H2 e2 o2⟩
      | _ => exact h'.elim
def tBoolE (X : Cx) (k : Nat) (W : L2.St → XK) (ta : TE) : TE := fun σ H Q => ta σ H fun x H1 => ∃ a C dx fs, x = .ref a ∧ H1 a = some (.ins C dx fs) ∧ ∃ f fd ps sp, Meth X.K C "__bool__" f ∧ FnOk X.prog X.w X.K X.mg X.base (L2.CX X.prog X.w) k f fd ps sp ∧ Binds X.K fd ps [] ∧ sp [x] H1 (fun v H' => ∃ b, v = .bl b ∧ Q v H') (W σ)
theorem pe_boolI {p : Pos} (he : PE X o ta) (hr : Room (k + 2) X.A) (hx : ∀ σ, PassesAt (L2.CX X.prog X.w) X σ (W σ)) (hg : Gl X "bool") (hm0 : X.mg "bool" = none) (hs : starEach [o] X.env = [(false, eval o X.env)] := by rfl) : PE X (.Call (.Name "bool" p) [o] [] pos) (tBoolE X k W ta) := by
  refine ⟨fun pins s σ H Q I h => ?_⟩
  refine wpAny_Call_Name_kw (ld_blt I hg hm0 (show bootBuiltins "bool" = some (.type "bool") by decide +kernel) ?_ (by decide) (by decide))
  refine PyProof.Rows.callWith_type1 (thn ((pa_cons he pa_nil hs).run pos pins s σ H (fun vs H1 => match vs with
    | [x] => ∃ a C dx fs, x = .ref a ∧ H1 a = some (.ins C dx fs) ∧ ∃ f fd ps sp, Meth X.K C "__bool__" f ∧ FnOk X.prog X.w X.K X.mg X.base (L2.CX X.prog X.w) k f fd ps sp ∧ Binds X.K fd ps [] ∧ sp [x] H1 (fun v H' => ∃ b, v = .bl b ∧ Q v H') (W σ)
    | _ => False) I h) fun us s1 ⟨vs, H1, I1, r1, q1⟩ => ?_) hs rfl
  match vs, r1, q1 with
  | [x], r1, ⟨a, C, dx, fs, ea, ga, f, fd, ps, sp, hm, F, hb, q⟩ =>
    subst ea
    obtain rfl := Vals.ref1 r1
    have hr2 : Room k X.A.in1.in1 := (show Room (k + 1) X.A.in1 from Room.in1 hr).in1
    have hl : [Value.ref a].length = ps.length := F.len _ _ _ _ q
    have b := hb s1 [.ref a] I1.kIn (by rw [List.append_nil]; exact hl)
    rw [List.append_nil] at b
    refine BI.bool_own (truthy_ins I1 ga hm (wpAny_call (codeAny_mono (F.run X.A.in1.in1 X.stack s1 H1 ⟨[.ref a], []⟩ [.ref a] [.ref a] _ (W σ) hr2 I1.env0.in1.in1 b (.cons rfl .nil) q) fun r s' hq => ?_)))
    cases r with
    | error e => exact hx σ pins H1 s1 e s' I1 hq
    | ok fl =>
      cases fl with
      | ret u =>
        obtain ⟨v, H2, I2, rv, b2, rfl, q2⟩ := I1.after hq
        cases rv
        exact ⟨b2, rfl, .bl b2, H2, I2, rfl, q2⟩
      | next => exact False.elim hq
      | brk => exact False.elim hq
      | cont => exact False.elim hq
end
end DL
namespace DL
open PySem PySem.Spec PyProof.Rows L2
section
variable {X : Cx} {fa : Option FA} {W : L2.St → XK} {o : Expr} {k : Nat} {f1 : Env' → M D} {pos : Pos}
theorem ed_boolI {p : Pos} {tab : List (Str × (List D → M D))} (hr : Room (k + 2) X.A) (hx : ∀ σ, PassesAt (L2.CX X.prog X.w) X σ (W σ)) (ht : ∀ q ∈ tab, MOk X.prog X.w X.K X.mg X.base k q.1 "__bool__" q.2) (hm0 : X.mg "bool" = none) (ho : ED X fa W o f1) (hg : Gl X "bool" := by rfl)
    (hs : starEach [o] X.env = [(false, eval o X.env)] := by rfl) : ED X fa W (.Call (.Name "bool" p) [o] [] pos) (dBl (dMeth tab "__bool__" f1 lNil)) := by
  obtain ⟨to, po, ko⟩ := ho
  refine ⟨_, pe_boolI po hr hx hg hm0 hs, fun σ F H ρ s Q h1 h2 h3 h => ?_⟩
  have h : Good X fa (W σ) F H ((f1 ρ s).bnd fun x s1 => ((M.lift (methOf tab "__bool__" x)).bind fun g => (g [x]).bind fun y => M.lift (bl1 y)) s1) Q := by
    rw [← meth_bl]
    exact h
  refine ko.then Good.tgt h1 h2 h3 h fun x s1 v F1 H1 e1 o1 r1 v1 h' => ?_
  cases q : methOf tab "__bool__" x with
  | none => rw [q] at h'; exact h'.elim
  | some g =>
    rw [q] at h'
    obtain ⟨a, C, dx, fs, rfl, ea, f, fd, ps, cc, hm, Fn, hb, l⟩ := meth_of e1.fh ht q r1
    refine ⟨a, C, dx, fs, rfl, ea, f, fd, ps, _, hm, Fn, hb, fa, F1, s1, [x], e1.fh, o1, .cons r1 .nil, ?_⟩
    change Good X fa (W σ) F1 H1 ((g [x] s1).bnd fun y s2 => M.lift (bl1 y) s2) Q at h'
    show Good X fa (W σ) F1 H1 (g [x] s1) _
    cases r : g [x] s1 with
    | bad => rw [r] at h'; exact h'.elim
    | err e s2 => rw [r] at h'; exact h'
    | ok d s2 =>
      rw [r] at h'
      change Good X fa (W σ) F1 H1 (M.lift (bl1 d) s2) Q at h'
      intro v F2 H2 e2 o2 r2
      cases d with
      | bl b =>
        cases r2
        exact ⟨b, rfl, h' (.bl b) F2 H2 e2 o2 (.bl b)⟩
      | _ => exact h'.elim
end
namespace Rm
variable {f : Env' → M D} {ρ : Env'} {s : FS}
theorem cbl {QB : Bool → FS → Prop} (h : Rm (f ρ) s fun x s => Rm (M.lift (blD x)) s QB) : Rm (cBl f ρ) s QB := bind h
theorem dbl {Q : D → FS → Prop} (h : Rm (f ρ) s fun x s => Rm (M.lift (bl1 x)) s Q) : Rm (dBl f ρ) s Q := bind h
end Rm
instance {f : Env' → M D} {ρ : Env'} {s : FS} {QB : Bool → FS → Prop} : RmStep (cBl f ρ) s QB (Rm (f ρ) s fun x s => Rm (M.lift (blD x)) s QB) := ⟨Rm.cbl⟩
instance {f : Env' → M D} {ρ : Env'} {s : FS} {Q : D → FS → Prop} : RmStep (dBl f ρ) s Q (Rm (f ρ) s fun x s => Rm (M.lift (bl1 x)) s Q) := ⟨Rm.dbl⟩
end DL

set_option Elab.async false
set_option linter.all false
set_option maxRecDepth 100000
set_option maxHeartbeats 1000000
/-! d.setdefault(k, v), called. -/
namespace L2
open PySem PySem.Spec PyProof.Rows
theorem mt_setdefault {X : Cx} : MtR X "dict.setdefault" rSetd := by
  intro pins s σ H x vs v us Q I rx rv h
  obtain ⟨a, kvs, k, y, rfl, rfl, ea, hl, w1, w2⟩ := h
  cases rx
  cases rv with
  | cons ry rv =>
    cases rv with
    | cons rd rv =>
      cases rv
      obtain ⟨z, hd, vs0, rel, dd⟩ := dk_of I.hok ea
      have hz : vs0.length ≤ sizeLine := by rw [← rel.length]; exact z
      refine call_meetsIn PySem.F.slot_dict_setdefault dd.typeIs PySem.F.entry_dict_setdefault (PySem.F.args_dict_setdefault_3 _ _ _) (kt_meets_setdefault (mixKind X.prog X.w) _ (kV_is ry) hd _) ⟨vs0, dd, hz, fun u hu => ?_, fun hn h' dd' hs => ?_⟩
      · have rr := rel.val k
        rw [hu] at rr
        cases hv : valV kvs k with
        | none => rw [hv] at rr; exact False.elim rr
        | some x =>
          rw [hv] at rr
          exact (⟨x, H, I.tok _, rr, w1 x hv⟩ : EP X pins σ Q u _)
      · have rr := rel.val k
        rw [hn] at rr
        cases hv : valV kvs k with
        | some x => rw [hv] at rr; exact False.elim rr
        | none =>
          have hl2 : (putK kvs k y).length ≤ sizeLine := by have := length_putK kvs k y; omega
          exact (⟨y, _, d_write (t' := s.toks + 1) I (by rw [ea]; exact True.intro) hs (let ⟨q, _, _, hq, _⟩ := dd'; ⟨q, hq⟩) (dk_new hl2 hd (rel.put k rd) dd'), rd, w2 hv⟩ : EP X pins σ Q _ _)
end L2

set_option Elab.async false
set_option linter.all false
set_option maxRecDepth 100000
set_option maxHeartbeats 1000000
/-! The data layer: d.setdefault(k, v) of an owned dict; `if c and v != w` where v changes an owned thing. -/
namespace DL
open PySem PySem.Spec PyProof.Rows L2
def MoOkD (X : Cx) (r : V → List V → Hp → VK → Prop) (mo : List (Key × D) → List D → Option (D × List (Key × D))) : Prop :=
  ∀ (fa : Option FA) (F H : Hp) (p : Addr) (vs : List (Key × V)) (xs : List (Key × D)) (as : List D) (ws : List V) (Q : VK) (d : D) (xs' : List (Key × D)), H p = some (.dK vs) → RepK X.K fa F xs vs → RepL X.K fa F as ws → mo xs as = some (d, xs') →
    (∀ v vs', RepK X.K fa F xs' vs' → Rep X.K fa F d v → Q v (upd H p (.dK vs'))) → r (.ref p) ws H Q
def vMd (i : Nat) (mo : List (Key × D) → List D → Option (D × List (Key × D))) (fl : Sts → M (List D × Sts)) : Sts → M (EV × Sts) := fun ρ => match ρ[i]? with
  | some (.od _) => (fl ρ).bind fun q => match q.2[i]? with
    | some (.od xs) => (M.lift (mo xs q.1)).bind fun z => M.pure (.d z.1, q.2.set i (.od z.2))
    | _ => M.bad
  | _ => M.bad
theorem SOk.mutateD {K : PySem.W.Frag} {fa : Option FA} {B F0 H0 F H : Hp} {A : Nat → Addr} {σ vs : L2.St} {ρ evs : Sts} {s : FS} {i : Nat} {xs xs' : List (Key × D)} {vs' : List (Key × V)} {d : D} {v : V} (S : SOk K fa B F0 H0 F H A (σ ++ vs) (ρ ++ evs) s) (h : ρ[i]? = some (.od xs)) (r : RepK K fa F xs' vs') (rd : Rep K fa F d v) :
    SOk K fa B F0 H0 F (upd H (A i) (.dK vs')) A (σ ++ vs ++ [some v]) (ρ.set i (.od xs') ++ evs ++ [.d d]) s := by
  have hi : i < ρ.length := (List.getElem?_eq_some_iff.mp h).1
  obtain ⟨h1, h2, h3, h4, h5⟩ := S.slot i _ (app_get h)
  have S1 := S.write (ev' := .od xs') (o := .dK vs') (app_get h) rfl rfl ⟨rfl, h2, h3, h4, vs', upd_same, r⟩
  rw [List.set_append_left _ _ hi] at S1
  exact S1.push rd
section
variable {X : Cx} {fa : Option FA} {W : XK} {e : Expr} {es : List Expr} {p apos cpos : Pos} {fl : Sts → M (List D × Sts)}
theorem vj_mtD {i : Nat} {x m : Str} {id : String} {r : V → List V → Hp → VK → Prop} {mo : List (Key × D) → List D → Option (D × List (Key × D))} (slot : Slot "dict" m id) (hty : typeOf (.builtin id) = pure (.type "method_descriptor")) (hm : MtR X id r) (ok : MoOkD X r mo) (hl : LVJ X fa W (e :: es) fl)
    (ho : PE X (.Name x p) (tVar i)) (hbase : attributeBase (.Name x p) m X.env (eval (.Name x p) X.env) = eval (.Name x p) X.env := by rfl)
    (hfew : ((backTo cpos (starEach (e :: es) X.env)).all (fun x => !x.1) && (backToKw cpos (keywordEach [] X.env)).all (fun x => x.1.isSome) && decide ((e :: es).length + ([] : List Keyword).length + (if ([] : List Keyword).isEmpty then 0 else 1) < 30)) = true := by rfl)
    (hline : (apos.endLine == cpos.line) = true := by rfl) (hs : starEach (e :: es) X.env = (false, eval e X.env) :: starEach es X.env := by rfl) (hplain : (backTo cpos (starEach es X.env)).any (·.1) = false := by rfl) :
    VJ X fa W (.Call (.Attribute (.Name x p) m apos) (e :: es) [] cpos) (vMd i mo fl) := by
  obtain ⟨tl, pl, kl⟩ := hl
  refine ⟨_, pe_bm PySem.F.plainAttrs_dict slot hty hm ho pl hbase hfew hline hs hplain, fun B F0 H0 F H A σ vs ρ evs s Q hl S hg => ?_⟩
  unfold vMd at hg
  cases e1 : ρ[i]? with
  | none => rw [e1] at hg; exact hg.elim
  | some ev =>
    cases ev with
    | od xs0 =>
      rw [e1] at hg
      obtain ⟨w0, f0, g0, n0, vs0, q0, r0⟩ := S.slot i _ (app_get e1)
      have hi : i < σ.length := by rw [hl]; exact (List.getElem?_eq_some_iff.mp e1).1
      rw [List.getElem?_append_left hi] at w0
      have w1 := join_some w0
      refine ⟨_, w1, .inr (.inr (.inl ⟨rfl, .inl ⟨_, q0⟩⟩)), ?_⟩
      refine kl.then GoodV.tgt hl S hg fun ds ρ' s' ws F' H' A' S' hl' hw rl h' => ?_
      change GoodV X fa W B F0 H0 σ vs evs ((match ρ'[i]? with
        | some (.od xs) => (M.lift (mo xs ds)).bind fun z => M.pure (.d z.1, ρ'.set i (.od z.2))
        | _ => M.bad : M (EV × Sts)) s') Q at h'
      cases e2 : ρ'[i]? with
      | none => rw [e2] at h'; exact h'.elim
      | some ev2 =>
        cases ev2 with
        | od xs =>
          rw [e2] at h'
          obtain ⟨w2, f2, g2, n2, vs2, q2, r2⟩ := S'.slot i _ (app_get e2)
          rw [List.getElem?_append_left hi] at w2
          have w3 := join_some w2
          rw [w1] at w3
          have ea : A i = A' i := by
            injection w3 with w3
            injection w3 with w3
            injection w3
          change GoodV X fa W B F0 H0 σ vs evs (((M.lift (mo xs ds)).bind _) s') Q at h'
          cases e3 : mo xs ds with
          | none => rw [e3] at h'; exact h'.elim
          | some z =>
            rw [e3] at h'
            obtain ⟨d, xs'⟩ := z
            rw [ea]
            exact ok fa F' H' (A' i) vs2 xs ds ws _ d xs' q2 r2 rl e3 fun v vs' rx rd => h' v F' _ A' (S'.mutateD e2 rx rd)
        | _ => rw [e2] at h'; exact h'.elim
    | _ => rw [e1] at hg; exact hg.elim
end
def moSetd : List (Key × D) → List D → Option (D × List (Key × D))
  | xs, [kd, y] => if xs.length < sizeLine then (keyD kd).map fun k => match lookD xs k with
    | some d => (d, xs)
    | none => (y, putD xs k y) else none
  | _, _ => none
section
variable {X : Cx} {fa : Option FA} {W : XK} {c a b : Expr} {sts sts' : List Stmt} {pos cp bp : Pos} {c1 : Env' → M Bool} {fv : Sts → M (EV × Sts)} {f2 : Env' → M D} {g g' : Sts → M (Fl × Sts)}
def gIfV (g2 : D → D → Option D) (fv : Sts → M (EV × Sts)) (f2 : Env' → M D) (g g' : Sts → M (Fl × Sts)) : Sts → M (Fl × Sts) := fun ρ => (fv ρ).bind fun p => match p.1 with
  | .d x => (f2 (view p.2)).bind fun y => (M.lift (g2 x y)).bind fun z => (M.lift (blD z)).bind fun k => if k = true then g p.2 else g' p.2
  | _ => M.bad
theorem sj_ifAndV {op : CmpOp} {r : R2} {g2 : D → D → Option D} (hc : TD X fa (fun _ => W) c c1) (ho : OpR X (compareOp op) r) (ok : OpOk X fa r g2) (hv : VJ X fa W a fv) (hw : ED X fa (fun _ => W) b f2) (ha : SSJ X fa W sts g) (hb : SSJ X fa W sts' g') (hm : behindInMarks op b = false := by first | exact nomark _ | rfl) :
    SJ X fa W (.If (.BoolOp .And [c, .Compare a [op] [b] cp] bp) sts sts' pos) (gIf c1 (gIfV g2 fv f2 g g') g') := by
  obtain ⟨tc, pc, kc⟩ := hc
  obtain ⟨tv, pv, kv⟩ := hv
  obtain ⟨tw, pw, kw⟩ := hw
  obtain ⟨ta, pa, ka⟩ := ha
  obtain ⟨tb, pb, kb⟩ := hb
  refine ⟨_, ps_if (pw_and pc (pw_and1 (pt_cmpR ho pv pw hm))).pt pa pb, fun B F0 H0 F H A σ ρ s Dn S hg => ?_⟩
  obtain ⟨ff, fh, fo0, ex0⟩ := S.fp
  have S0 : SOk X.K fa B F0 H0 F H A (σ ++ []) (ρ ++ []) s := by rw [app0, app0]; exact S
  have en := S0.view S.len
  rw [app0] at en
  refine kc σ (Fp F H A ρ) H (view ρ) s _ fh fo0 en ?_
  change GoodS X fa W B F0 H0 ((c1 (view ρ) s).bnd _) Dn at hg
  generalize c1 (view ρ) s = r0 at hg
  cases r0 with
  | bad => exact hg
  | err e s' => exact fun cls dd F' H' e fo rx => hg cls dd F' H' (ex0.trans e) fo rx
  | ok k s' =>
    intro F' H' e fo
    have S1 := S.back e fo
    cases k with
    | false => exact iteF (iteF (kb B F0 H0 F H' A σ ρ s' Dn S1 hg))
    | true =>
      refine iteT ?_
      change GoodS X fa W B F0 H0 ((fv ρ s').bnd _) Dn at hg
      refine kv.then (vs := []) (evs := []) GoodS.tgt S1.len (by rw [app0, app0]; exact S1) hg fun ev ρ1 s1 w F1 H1 A1 S2 hl1 h1 => ?_
      rw [app0, app0] at S2
      cases ev with
      | d x =>
        obtain ⟨gf, gh, go, gx⟩ := S2.fp
        have en1 := S2.view hl1
        refine kw σ (Fp F1 H1 A1 (ρ1 ++ [.d x])) H1 (view ρ1) s1 _ gh go en1 ?_
        change GoodS X fa W B F0 H0 ((f2 (view ρ1) s1).bnd _) Dn at h1
        generalize f2 (view ρ1) s1 = r1 at h1
        cases r1 with
        | bad => exact h1
        | err e s' => exact fun cls dd F' H' e fo rx => h1 cls dd F' H' (gx.trans e) fo rx
        | ok y s2 =>
          intro u F2 H2 e2 fo2 ry
          have rx0 : RepL X.K fa F1 [x] [w] := SOk.top (ds := [x]) (ws := [w]) S2 hl1
          have rx : Rep X.K fa F2 x w := by
            cases rx0 with
            | cons rx _ => exact (rx.mono gf).mono e2.ff
          refine ok F2 H2 s2 w u x y _ e2.fh fo2 rx ry (goodO_bl (W1 := W) e2.fh fo2 ?_)
          change GoodS X fa W B F0 H0 (((M.lift (g2 x y)).bind fun z => (M.lift (blD z)).bind fun k => if k = true then g ρ1 else g' ρ1) s2) Dn at h1
          cases q : g2 x y with
          | none => rw [q] at h1; exact h1.elim
          | some z =>
            rw [q] at h1
            cases q2 : blD z with
            | none =>
              change GoodS X fa W B F0 H0 (((M.lift (blD z)).bind fun k => if k = true then g ρ1 else g' ρ1) s2) Dn at h1
              rw [q2] at h1
              exact h1.elim
            | some k =>
              change GoodS X fa W B F0 H0 (((M.lift (blD z)).bind fun k => if k = true then g ρ1 else g' ρ1) s2) Dn at h1
              rw [q2] at h1
              change GoodS X fa W B F0 H0 ((if k = true then g ρ1 else g' ρ1) s2) Dn at h1
              show GoodB X fa W F2 H2 ((M.lift (blD z)) s2) _
              rw [q2]
              intro F3 H3 e3 fo3
              have S4 := (S2.back (e2.trans e3) fo3).drop hl1
              cases k with
              | true => exact iteT (ka B F0 H0 F1 H3 A1 σ ρ1 s2 Dn S4 h1)
              | false => exact iteF (kb B F0 H0 F1 H3 A1 σ ρ1 s2 Dn S4 h1)
      | _ => exact h1.elim
end
end DL
namespace DL
open PySem PySem.Spec PyProof.Rows L2
theorem upd_self {H : Hp} {p : Addr} {o : HO} (h : H p = some o) : upd H p o = H := by
  funext b
  by_cases e : b = p
  · subst e; rw [upd_same, h]
  · rw [upd_ne e]
theorem ok_setd {X : Cx} : MoOkD X rSetd moSetd := by
  intro fa F H p vs xs as ws Q d xs' h r ra e k
  cases ra with
  | nil => cases e
  | @cons kd w ds ws' rk rr =>
    cases rr with
    | nil => cases e
    | @cons y u ds ws' ry rr =>
      cases rr with
      | cons _ _ => cases e
      | nil =>
        change (if xs.length < sizeLine then (keyD kd).map fun k => match lookD xs k with
          | some d => (d, xs)
          | none => (y, putD xs k y) else none) = some (d, xs') at e
        by_cases hz : xs.length < sizeLine
        · rw [if_pos hz] at e
          cases e3 : keyD kd with
          | none => rw [e3] at e; cases e
          | some kk =>
            rw [e3] at e
            have e : (match lookD xs kk with
              | some d => (d, xs)
              | none => (y, putD xs kk y)) = (d, xs') := Option.some.inj e
            obtain ⟨l1, l2⟩ := lookD_rep (k := kk) r
            refine ⟨p, vs, kk, u, rfl, by rw [key_rep e3 rk], h, by rw [← r.length]; exact hz, fun z hv => ?_, fun hv => ?_⟩
            · cases q : lookD xs kk with
              | none => rw [l2 q] at hv; cases hv
              | some d0 =>
                rw [q] at e
                cases e
                obtain ⟨v0, h1, h2⟩ := l1 d q
                rw [hv] at h1
                cases h1
                have := k z vs r h2
                rw [upd_self h] at this
                exact this
            · cases q : lookD xs kk with
              | none =>
                rw [q] at e
                cases e
                exact k u _ (putK_eq kk ry r) ry
              | some d0 =>
                obtain ⟨v0, h1, _⟩ := l1 d0 q
                rw [hv] at h1
                cases h1
        · rw [if_neg hz] at e
          cases e
end DL
namespace DL
open PySem PySem.Spec PyProof.Rows L2
namespace Rm
variable {ρ : Sts} {s : FS} {i : Nat}
def mdK (i : Nat) (mo : List (Key × D) → List D → Option (D × List (Key × D))) (q : List D × Sts) : M (EV × Sts) := match q.2[i]? with
  | some (.od xs) => (M.lift (mo xs q.1)).bind fun z => M.pure (.d z.1, q.2.set i (.od z.2))
  | _ => M.bad
theorem vmd {fl : Sts → M (List D × Sts)} {QV : EV × Sts → FS → Prop} {mo : List (Key × D) → List D → Option (D × List (Key × D))} {xs : List (Key × D)} (e : ρ[i]? = some (.od xs)) (h : Rm (fl ρ) s fun q s => Rm (mdK i mo q) s QV) : Rm (vMd i mo fl ρ) s QV := by
  unfold vMd
  rw [e]
  exact bind h
theorem mdk {QV : EV × Sts → FS → Prop} {mo : List (Key × D) → List D → Option (D × List (Key × D))} {xs : List (Key × D)} {as : List D} (e : ρ[i]? = some (.od xs)) (h : Rm (M.lift (mo xs as)) s fun z s => QV (.d z.1, ρ.set i (.od z.2)) s) : Rm (mdK i mo (as, ρ)) s QV := by
  unfold mdK
  dsimp only
  rw [e]
  exact bindP h
def ifK (g2 : D → D → Option D) (f2 : Env' → M D) (g g' : Sts → M (Fl × Sts)) (p : EV × Sts) : M (Fl × Sts) := match p.1 with
  | .d x => (f2 (view p.2)).bind fun y => (M.lift (g2 x y)).bind fun z => (M.lift (blD z)).bind fun k => if k = true then g p.2 else g' p.2
  | _ => M.bad
theorem ifV {Q : Fl × Sts → FS → Prop} {g2 : D → D → Option D} {fv : Sts → M (EV × Sts)} {f2 : Env' → M D} {g g' : Sts → M (Fl × Sts)} (h : Rm (fv ρ) s fun p s => Rm (ifK g2 f2 g g' p) s Q) : Rm (gIfV g2 fv f2 g g' ρ) s Q := bind h
theorem ifk {Q : Fl × Sts → FS → Prop} {x : D} {g2 : D → D → Option D} {f2 : Env' → M D} {g g' : Sts → M (Fl × Sts)} (h : Rm (f2 (view ρ)) s fun y s => Rm (M.lift (g2 x y)) s fun z s => Rm (M.lift (blD z)) s fun k s => Rm (if k = true then g ρ else g' ρ) s Q) : Rm (ifK g2 f2 g g' (.d x, ρ)) s Q :=
  bind (h.mono fun _ _ h => bind (h.mono fun _ _ h => bind h))
end Rm
instance {ρ : Sts} {s : FS} {Q : Fl × Sts → FS → Prop} {g2 : D → D → Option D} {fv : Sts → M (EV × Sts)} {f2 : Env' → M D} {g g' : Sts → M (Fl × Sts)} : RmStep (gIfV g2 fv f2 g g' ρ) s Q (Rm (fv ρ) s fun p s => Rm (Rm.ifK g2 f2 g g' p) s Q) := ⟨Rm.ifV⟩
instance {ρ : Sts} {s : FS} {Q : Fl × Sts → FS → Prop} {x : D} {g2 : D → D → Option D} {f2 : Env' → M D} {g g' : Sts → M (Fl × Sts)} : RmStep (Rm.ifK g2 f2 g g' (.d x, ρ)) s Q (Rm (f2 (view ρ)) s fun y s => Rm (M.lift (g2 x y)) s fun z s => Rm (M.lift (blD z)) s fun k s => Rm (if k = true then g ρ else g' ρ) s Q) := ⟨Rm.ifk⟩
end DL

set_option Elab.async false
set_option linter.all false
set_option maxRecDepth 100000
set_option maxHeartbeats 1000000
/-! The data layer: a, b, c, d = e, f, g, h by way of a tuple; name += e (whole numbers). -/
namespace DL
open PySem PySem.Spec PyProof.Rows L2
def gPar4 (i j l m : Nat) (f g h k : Sts → M (EV × Sts)) : Sts → M (Fl × Sts) := fun ρ => if i < ρ.length ∧ j < ρ.length ∧ l < ρ.length ∧ m < ρ.length then (f ρ).bind fun p => (g p.2).bind fun q => (h q.2).bind fun r => (k r.2).bind fun z => M.pure (.nx, (((z.2.set i p.1).set j q.1).set l r.1).set m z.1) else M.bad
section
variable {X : Cx} {fa : Option FA} {W : XK} {a b c d e : Expr} {pos px py pz pw pt : Pos} {f g h k : Sts → M (EV × Sts)}
theorem sj_parT4 {i j l m : Nat} {x y z w : Str} {kt : Nat} {k2 : Nat} {pt2 : Pos} (hc : X.calm = true) (hN : X.N.Nodup) (ha : VJ X fa W a f) (hb : VJ X fa W b g) (hd : VJ X fa W c h) (he : VJ X fa W d k) (hi : X.N[i]? = some x := by rfl) (hj : X.N[j]? = some y := by rfl) (hk : X.N[l]? = some z := by rfl) (hm : X.N[m]? = some w := by rfl)
    (hij : i ≠ j := by decide) (hil : i ≠ l := by decide) (hjl : j ≠ l := by decide) (him : i ≠ m := by decide) (hjm : j ≠ m := by decide) (hlm : l ≠ m := by decide)
    (hx : Loc X.env.scope x := by first | exact .inl rfl | exact .inr rfl) (hy : Loc X.env.scope y := by first | exact .inl rfl | exact .inr rfl) (hz : Loc X.env.scope z := by first | exact .inl rfl | exact .inr rfl) (hw0 : Loc X.env.scope w := by first | exact .inl rfl | exact .inr rfl)
    (fx : X.fn x = true ∨ X.env.scope.names.lookup x = some .local := by first | exact .inl rfl | exact .inr rfl) (fy : X.fn y = true ∨ X.env.scope.names.lookup y = some .local := by first | exact .inl rfl | exact .inr rfl) (fz : X.fn z = true ∨ X.env.scope.names.lookup z = some .local := by first | exact .inl rfl | exact .inr rfl) (fw : X.fn w = true ∨ X.env.scope.names.lookup w = some .local := by first | exact .inl rfl | exact .inr rfl)
    (hw : swappedStores [.Tuple [.Name x px, .Name y py, .Name z pz, .Name w pw] kt pt] (.Tuple [a, b, c, d] k2 pt2) X.env = pure none := by rfl)
    (hs : swapsWithSole [.Tuple [.Name x px, .Name y py, .Name z pz, .Name w pw] kt pt] (.Tuple [a, b, c, d] k2 pt2) pos.line X.env = pure false := by rfl) (e1 : starEach [a, b, c, d] X.env = (false, eval a X.env) :: starEach [b, c, d] X.env := by rfl) (e2 : starEach [b, c, d] X.env = (false, eval b X.env) :: starEach [c, d] X.env := by rfl) (e3 : starEach [c, d] X.env = (false, eval c X.env) :: starEach [d] X.env := by rfl) (e4 : starEach [d] X.env = (false, eval d X.env) :: starEach [] X.env := by rfl)
    (h1 : (assignEach [.Tuple [.Name x px, .Name y py, .Name z pz, .Name w pw] kt pt] X.env).map (·.2) = [assign (.Tuple [.Name x px, .Name y py, .Name z pz, .Name w pw] kt pt) X.env] := by rfl)
    (hn : (assignEach [.Name x px, .Name y py, .Name z pz, .Name w pw] X.env).length = 4 := by rfl) (hst : (assignEach [.Name x px, .Name y py, .Name z pz, .Name w pw] X.env).findIdx? (·.1) = none := by rfl)
    (c1 : (assignEach [.Name x px, .Name y py, .Name z pz, .Name w pw] X.env).map (·.2) = assign (.Name x px) X.env :: (assignEach [.Name y py, .Name z pz, .Name w pw] X.env).map (·.2) := by rfl) (c2 : (assignEach [.Name y py, .Name z pz, .Name w pw] X.env).map (·.2) = assign (.Name y py) X.env :: (assignEach [.Name z pz, .Name w pw] X.env).map (·.2) := by rfl) (c3 : (assignEach [.Name z pz, .Name w pw] X.env).map (·.2) = assign (.Name z pz) X.env :: (assignEach [.Name w pw] X.env).map (·.2) := by rfl) (c4 : (assignEach [.Name w pw] X.env).map (·.2) = assign (.Name w pw) X.env :: (assignEach [] X.env).map (·.2) := by rfl) :
    SJ X fa W (.Assign [.Tuple [.Name x px, .Name y py, .Name z pz, .Name w pw] kt pt] (.Tuple [a, b, c, d] k2 pt2) pos) (gPar4 i j l m f g h k) := by
  obtain ⟨ta, pa, ka⟩ := ha
  obtain ⟨tb, pb, kb⟩ := hb
  obtain ⟨td, pd, kd⟩ := hd
  obtain ⟨te, pe, ke⟩ := he
  refine ⟨_, ps_asg (pe_tup (pa_cons pa (pa_cons pb (pa_cons pd (pa_cons pe pa_nil e4) e3) e2) e1)) (pg_tup hc (pgs_cons (pg_name hN hi hx fx) (pgs_cons (pg_name hN hj hy fy) (pgs_cons (pg_name hN hk hz fz) (pgs_cons (pg_name hN hm hw0 fw) pgs_nil c4) c3) c2) c1) hn hst) hs hw h1, fun B F0 H0 F H A σ ρ s Dn S hgood => ?_⟩
  by_cases hlt : i < ρ.length ∧ j < ρ.length ∧ l < ρ.length ∧ m < ρ.length
  · unfold gPar4 at hgood; rw [if_pos hlt] at hgood
    refine ka.then (vs := []) (evs := []) GoodS.tgt S.len (by rw [app0, app0]; exact S) hgood fun eu ρ1 s1 u F1 H1 A1 S1 hl1 h1 => ?_
    rw [app0, app0] at S1
    refine kb.then (vs := [some u]) (evs := [eu]) GoodS.tgt hl1 S1 h1 fun ev ρ2 s2 v F2 H2 A2 S2 hl2 h2 => ?_
    rw [List.append_assoc, List.append_assoc] at S2
    refine kd.then (vs := [some u] ++ [some v]) (evs := [eu] ++ [ev]) GoodS.tgt hl2 S2 h2 fun ew ρ3 s3 w F3 H3 A3 S3 hl3 h3 => ?_
    rw [List.append_assoc σ, List.append_assoc ρ3] at S3
    refine ke.then (vs := ([some u] ++ [some v]) ++ [some w]) (evs := ([eu] ++ [ev]) ++ [ew]) GoodS.tgt hl3 S3 h3 fun ex ρ4 s4 x4 F4 H4 A4 S4 hl4 h4 => ?_
    refine ⟨by rw [sizeLine_eq]; show 4 ≤ _; decide, fun p hp => ⟨p, [u, v, w, x4], rfl, .inl (.inl upd_same), rfl, u, [v, w, x4], rfl, v, [w, x4], rfl, w, [x4], rfl, x4, [], rfl, rfl, ?_⟩⟩
    have n4 : ρ4.length = ρ.length := by rw [← hl4, S.len]
    have S5 := (S4.newT (o := .tup [u, v, w, x4]) hp).pop (by simp [hl4]) m
    rw [List.set_append_left _ _ (by rw [hl4]; omega), List.set_append_left _ _ (by omega)] at S5
    simp only [← List.append_assoc] at S5
    have S6 := S5.pop (by simp [hl4]) l
    have c0 : ∀ {α : Type} (L : List α) (q1 q2 q3 : α), l < L.length → (L ++ [q1] ++ [q2]).set l q3 = L.set l q3 ++ [q1] ++ [q2] := fun L q1 q2 q3 h => by
      rw [List.set_append_left _ _ (by rw [List.length_append]; omega), List.set_append_left _ _ h]
    rw [c0 _ _ _ _ (by rw [List.length_set, hl4]; omega), c0 _ _ _ _ (by rw [List.length_set]; omega)] at S6
    obtain ⟨A7, S7⟩ := two_pop S6 (by simp [hl4]) hij (by simp; omega) (by simp; omega)
    have c1 : ∀ {α : Type} (L : List α) (q1 q2 q3 q4 : α), ((((L.set m q4).set l q3).set i q1).set j q2) = (((L.set i q1).set j q2).set l q3).set m q4 := fun L q1 q2 q3 q4 => by
      rw [List.set_comm _ _ (Ne.symm hil), List.set_comm _ _ (Ne.symm hjl), List.set_comm _ _ (Ne.symm him), List.set_comm _ _ (Ne.symm hjm), List.set_comm _ _ (Ne.symm hlm)]
    rw [c1, c1] at S7
    exact h4 _ F4 _ A7 S7
  · unfold gPar4 at hgood; rw [if_neg hlt] at hgood
    exact hgood.elim
def addI (i j : Int) : Int := i + j
def subI (i j : Int) : Int := i - j
def gAug (i : Nat) (op : Int → Int → Int) (f : Sts → M (EV × Sts)) : Sts → M (Fl × Sts) := fun ρ => match ρ[i]? with
  | some (.d (.int n)) => (f ρ).bind fun p => (match p.1 with
    | .d (.int m) => M.pure (.nx, p.2.set i (.d (.int (op n m))))
    | _ => M.bad)
  | _ => M.bad
theorem sj_aug {i : Nat} {x : Str} {o : Operator} {op : Int → Int → Int} (ho : PIp X o (ipI op)) (hN : X.N.Nodup) (ha : VJ X fa W e f) (hi : X.N[i]? = some x := by rfl) (hx : Loc X.env.scope x := by first | exact .inl rfl | exact .inr rfl)
    (fx : X.fn x = true ∨ X.env.scope.names.lookup x = some .local := by first | exact .inl rfl | exact .inr rfl) : SJ X fa W (.AugAssign (.Name x px) o e pos) (gAug i op f) := by
  obtain ⟨ta, pa, ka⟩ := ha
  refine ⟨_, ps_aug hN hi hx pa ho fx, fun B F0 H0 F H A σ ρ s Dn S hg => ?_⟩
  unfold gAug at hg
  cases e1 : ρ[i]? with
  | none => rw [e1] at hg; exact hg.elim
  | some ev =>
    cases ev with
    | d y =>
      cases y with
      | int n =>
        rw [e1] at hg
        obtain ⟨v0, w0, r0⟩ := S.slot i _ e1
        cases r0
        refine ⟨_, join_some w0, ?_⟩
        refine ka.then (vs := []) (evs := []) GoodS.tgt S.len (by rw [app0, app0]; exact S) hg fun eu ρ1 s1 u F1 H1 A1 S1 hl1 h1 => ?_
        rw [app0, app0] at S1
        have top : (ρ1 ++ [eu])[ρ1.length]? = some eu := by simp
        have rt := S1.slot _ _ top
        rw [← hl1] at rt
        cases eu with
        | d z =>
          cases z with
          | int m =>
            obtain ⟨v1, w1, r1⟩ := rt
            rw [show (σ ++ [some u])[σ.length]?.join = some u by simp] at w1
            cases w1
            cases r1
            refine ⟨_, _, rfl, rfl, ?_⟩
            have S2 := ((S1.drop hl1).push (.int (op n m))).pop hl1 i
            exact h1 _ F1 H1 _ S2
          | _ => exact h1.elim
        | _ => exact h1.elim
      | _ => rw [e1] at hg; exact hg.elim
    | _ => rw [e1] at hg; exact hg.elim
end
section
variable {ρ : Sts} {s : FS} {Q : Fl × Sts → FS → Prop} {f1 f2 f3 f4 : Sts → M (EV × Sts)} {i j l m : Nat}
theorem Rm.par4 (hl : i < ρ.length ∧ j < ρ.length ∧ l < ρ.length ∧ m < ρ.length) (h : Rm (f1 ρ) s fun p s => Rm (f2 p.2) s fun q s => Rm (f3 q.2) s fun r s => Rm (f4 r.2) s fun z s => Q (.nx, (((z.2.set i p.1).set j q.1).set l r.1).set m z.1) s) : Rm (gPar4 i j l m f1 f2 f3 f4 ρ) s Q := by
  unfold gPar4
  rw [if_pos hl]
  exact Rm.bind (h.mono fun p s h => Rm.bind (h.mono fun q s h => Rm.bind (h.mono fun r s h => Rm.bindP h)))
def augK (i : Nat) (op : Int → Int → Int) (n : Int) (p : EV × Sts) : M (Fl × Sts) := match p.1 with
  | .d (.int m) => M.pure (.nx, p.2.set i (.d (.int (op n m))))
  | _ => M.bad
theorem Rm.aug {op : Int → Int → Int} {n : Int} (e : ρ[i]? = some (.d (.int n))) (h : Rm (f1 ρ) s fun p s => Rm (augK i op n p) s Q) : Rm (gAug i op f1 ρ) s Q := by
  unfold gAug
  rw [e]
  exact Rm.bind h
theorem Rm.augk {op : Int → Int → Int} {n m : Int} (q : Q (.nx, ρ.set i (.d (.int (op n m)))) s) : Rm (augK i op n (.d (.int m), ρ)) s Q := ⟨q⟩
end
end DL

set_option Elab.async false
set_option linter.all false
set_option maxRecDepth 100000
set_option maxHeartbeats 4000000
/-! Set comprehensions with one clause, over a kind of keys; sorted(a set of ints). -/
namespace SG
open PySem PySem.Spec PyProof.Rows L2 PpSet
section
variable {prog : Program} {w : World} {A : Around} {R : Result → Shared → Prop} {s : Shared} {elt t0 i0 t1 i1 : Expr} {ifs0 ifs1 : List Expr} {scope : Scope} {pos : Pos} {it acc : Value} {env : Env}
theorem turn_one (elt t1 i1 : Expr) (ifs1 : List Expr) (scope : Scope) (pos : Pos) (it acc : Value) (env : Env) :
    compTurn (.SetComp elt [⟨t1, i1, ifs1, 0⟩] scope pos) 0 it acc env = (do
      standAt i1.pos
      match ← pyNext it with
      | none => pure (.done .next)
      | some v =>
        letOwnedTupleGo t1 it v
        assign t1 env v
        let mut ok := true
        for c in ifs1 do
          if ok then ok ← isTrue c env (eval c env)
        if ok then
          (do let v ← eval elt env; standAt elt.pos; let _ ← call (.builtin "set.add") [acc, v])
        again (.compLoop (.SetComp elt [⟨t1, i1, ifs1, 0⟩] scope pos) 0 it acc env)) := by rfl
theorem loop_one (J : Nat → Shared → Prop)
    (turn : ∀ n s, J n s → wpAny (model prog w) A (pyNext it) (fun r s₁ => match r with
      | none => R (.ok .next) s₁
      | some v => wpAny (model prog w) A (letOwnedTupleGo t1 it v) (fun _ s₂ => wpAny (model prog w) A (assign t1 env v) (fun _ s₃ => wpAny (model prog w) A (tests ifs1 env) (fun ok s₄ =>
            if ok = true then wpAny (model prog w) A (eval elt env) (fun x s₅ =>
              wpAny (model prog w) A (call (.builtin "set.add") [acc, x]) (fun _ s₆ => ∃ m, m < n ∧ J m s₆) (Nb prog w A env R) s₅) (Nb prog w A env R) s₄
            else ∃ m, m < n ∧ J m s₄) (Nb prog w A env R) s₃) (Nb prog w A env R) s₂) (Nb prog w A env R) s₁) (Nb prog w A env R) s)
    (n : Nat) (h : J n s) : codeAny (model prog w) A (.compLoop (.SetComp elt [⟨t1, i1, ifs1, 0⟩] scope pos) 0 it acc env) R s := by
  refine codeAny_loop rfl J (fun n s hJ => ?_) n h
  show wpAny _ A ((compTurn (.SetComp elt [⟨t1, i1, ifs1, 0⟩] scope pos) 0 it acc env).onRaise (fun x => do noteFrame x env; theTreesLotGoes x)) _ _ s
  refine wpAny_noted ?_
  rw [turn_one]
  refine wpAny_bind (wpAny_standAt (wpAny_bind (wpAny_mono (turn n s hJ) (fun r s₁ q₁ => ?_) fun _ _ z => z)))
  cases r with
  | none => exact wpAny_pure q₁
  | some v =>
    refine wpAny_bind (wpAny_mono q₁ (fun _ s₂ q₂ => wpAny_bind (wpAny_mono q₂ (fun _ s₃ q₃ => wpAny_bind (wpAny_mono q₃ (fun ok s₄ q₄ => ?_) fun _ _ z => z)) fun _ _ z => z)) fun _ _ z => z)
    cases ok with
    | false => exact wpAny_pure ⟨rfl, q₄⟩
    | true => exact wpAny_bind (wpAny_bind (wpAny_mono q₄ (fun x s₅ q₅ => wpAny_bind (wpAny_standAt (wpAny_bind (wpAny_mono q₅ (fun _ s₆ q₆ => wpAny_pure (wpAny_pure ⟨rfl, q₆⟩)) fun _ _ z => z)))) fun _ _ z => z))
end
section
variable {X : Cx} {κ : Type} [DecidableEq κ]
/-- {elt for tg in iter if ..} -/
def tSet1 (kk : KK X.prog X.w κ) (wi : TI) (g : TG) (tt : TT) (te : TE) (vs : List Nat) : TE := fun σ H Q => wi σ H fun J H1 => ∀ D, H1 D = none → ∃ W : Nat → Nat → Hp → Prop, (∃ m, W 0 m (upd H1 D (SGO kk D (fun _ => false) 0))) ∧ ∀ i m H, W i m H →
  (J.stop i H ∧ Q (.ref D) H) ∨ (J.go i H ∧ ∃ Nx : Hp → Prop, (∀ H', Nx H' → ∃ m', m' < m ∧ W (i + 1) m' H') ∧ ∀ x H', J.yld i H x H' → g x (wipe σ vs) H' fun σ2 H2 => wipe σ2 vs = wipe σ vs ∧ tt σ2 H2 fun b H3 =>
    if b = true then tAdd kk D te σ2 H3 Nx
    else Nx H3)
theorem pe_set1 {kk : KK X.prog X.w κ} {elt tg iter : Expr} {ifs : List Expr} {scope : Scope} {own : List (Str × Nat)} {pos : Pos} {wi : TI} {g : TG} {tt : TT} {te : TE} (hc : X.calm = true) (hN : X.N.Nodup) (hi : PI X tg iter wi) (ok : BlkOk X.N X.env.scope scope own)
    (hg : Blk X scope fun Y => PG Y tg g) (ht : Blk X scope fun Y => PTs Y ifs tt) (he : Blk X scope fun Y => PE Y elt te)
    (hs : ∀ x, foldedSetIterable iter X.env x = pure x := by intro _; rfl) :
    PE X (.SetComp elt [⟨tg, iter, ifs, 0⟩] scope pos) (tSet1 kk wi g tt te (own.map (·.2))) := by
  refine ⟨fun pins s σ H Q I h => ?_⟩
  rw [eval_SetComp]
  have hfree : ∀ y ∈ scope.names, y.2 = .free → ∃ c, X.env.cells.lookup y.1 = some c := fun y hy e => by
    rcases ok.free y hy e with k | k
    · exact I.ok.has _ (.inl k)
    · exact I.ok.has _ (.inr k)
  refine wpAny_comprehension_free (use := none) rfl hs (closure_ok hfree) ok.kind (fun y hy e => by rw [ok.uniq y hy, e])
    (thn (hi.run pins s σ H _ I h) fun xv s1 hx => thn hx fun itv s2 h2 => ?_)
  obtain ⟨it, fp, tn, J, H2, e, I2, T, st2, f2, q⟩ := h2
  subst e
  refine newSet_ok (newEnv_comp ?_)
  generalize hD : s2.heap.objs.size = D
  have hDn : H2 D = none := I2.hok.fresh (Nat.le_of_eq hD)
  obtain ⟨W, ⟨m0, w0⟩, turn⟩ := q D hDn
  generalize hs3 : ({ s2 with heap := s2.heap.push { cls := .type "set", dict := none, data := .set #[] 0 (.fresh 0 0 (!X.w.params.followText "set-order")) } } : Shared) = s3
  have h3 : s3.heap = s2.heap.push { cls := .type "set", dict := none, data := .set #[] 0 (.fresh 0 0 (!X.w.params.followText "set-order")) } := by rw [← hs3]
  have I3 : Inv X pins σ (upd H2 D (SGO kk D (fun _ => false) 0)) s3 := by
    rw [← hs3]
    refine I2.laid (t' := s2.toks) (fun b o e => Heap.get?_push_of_some _ e) (Nat.le_of_eq hD) ?_
    rw [← hD]
    exact sgo_new setG_new
  have hlt : ∀ b ∈ fp, b < s2.heap.objs.size := fun b hb => by
    obtain ⟨o, e, _⟩ := T.obj _ _ st2 b hb
    exact Heap.lt_size e
  have f3 : ∀ b ∈ fp, FpOk X pins (upd H2 D (SGO kk D (fun _ => false) 0)) b ∧ b < s3.heap.objs.size := fun b hb => by
    refine ⟨⟨?_, (f2 b hb).2⟩, by rw [h3, Heap.size_push]; exact Nat.lt_succ_of_lt (hlt b hb)⟩
    rw [upd_ne (by rw [← hD]; exact Nat.ne_of_lt (hlt b hb))]
    exact (f2 b hb).1
  have st3 : tn 0 s3.heap := T.keep _ _ _ st2 fun b _ o e => by rw [h3]; exact Heap.get?_push_of_some _ e
  have I4 := block_start I3 ok hN f3
  have all := fun {T : Cx → Prop} (z : Blk X scope T) => z s3 (upd H2 D (SGO kk D (fun _ => false) 0)) s3.heap.objs.size (cellsFrom (s3.heap.objs.size + 1) scope.names (cloFrom X.env.cells scope.names [])) fp
  have pg := all hg
  have pt := all ht
  have pe := all he
  clear all
  show codeAny _ _ (.compStart (.SetComp elt [⟨tg, iter, ifs, 0⟩] scope pos) 0 (.ref it) (.ref D) (compEnvC scope (cellsFrom (s3.heap.objs.size + 1) scope.names (cloFrom X.env.cells scope.names [])) s3.heap.objs.size X.env)) (compPost (model X.prog X.w) X.A X.xe none _ (.ref D) s3.heap.objs.size) { s3 with heap := pushCells (s3.heap.push { cls := .type "dict", data := .dict #[] }) scope.names }
  have nfp : ∀ b ∈ fp, (upd H2 D (SGO kk D (fun _ => false) 0)) b = none := fun b hb => (f3 b hb).1.1
  generalize hce : compEnvC scope (cellsFrom (s3.heap.objs.size + 1) scope.names (cloFrom X.env.cells scope.names [])) s3.heap.objs.size X.env = ce at I4 pg pt pe ⊢
  have cL : ce.locals = s3.heap.objs.size := by subst hce; rfl
  generalize hH3 : upd H2 D (SGO kk D (fun _ => false) 0) = H3 at I3 I4 pg pt pe w0 nfp f3
  generalize hs4 : ({ s3 with heap := pushCells (s3.heap.push { cls := .type "dict", data := .dict #[] }) scope.names } : Shared) = s4 at I4 ⊢
  have st4 : tn 0 s4.heap := T.keep _ _ _ st3 fun b _ o e => by rw [← hs4]; exact pushCells_keeps _ _ _ _ (Heap.get?_push_of_some _ e)
  generalize hY : X.blk s3 H3 scope ce fp = Y at I4 pg pt pe
  have yp : Y.prog = X.prog := by rw [← hY]
  have stat : ∀ {σ' : L2.St} {H' : Hp} {s' : Shared}, Inv (X.blk s3 H3 scope ce fp) [] σ' H' s' → (∀ b ∈ fp, H' b = none) → ∀ b ∈ fp, FpOk (X.blk s3 H3 scope ce fp) [] H' b := fun {σ' H' s'} I' hn b hb =>
    ⟨hn b hb, (I'.ok.exf b hb).1, I'.ok.exfs b hb, .inl hb, fun x c e => (I'.ok.exf b hb).2 x c e, fun p hp => absurd (show p ∈ ([] : List (Addr × Obj)) ++ [] from hp) (by simp)⟩
  subst hY
  have loop : codeAny (model X.prog X.w) X.A (.compLoop (.SetComp elt [⟨tg, iter, ifs, 0⟩] scope pos) 0 (.ref it) (.ref D) ce) (compPost (model X.prog X.w) X.A X.xe none (EP X pins σ Q) (.ref D) s3.heap.objs.size) s4 := by
    refine loop_one (fun n s' => ∃ i H', Inv (X.blk s3 H3 scope ce fp) [] (wipe σ (own.map (·.2))) H' s' ∧ tn i s'.heap ∧ (∀ b ∈ fp, H' b = none) ∧ W i n H') ?_ m0 ⟨0, H3, I4, st4, nfp, w0⟩
    rintro n s5 ⟨i, H5, I5, st5, n5, w5⟩
    rcases turn i n H5 w5 with ⟨stop, qq⟩ | ⟨go, Nx, hNx, step⟩
    · refine thnF (T.done (X.blk s3 H3 scope ce fp) rfl rfl rfl hc i [] s5 _ H5 (fun _ _ => False) I5 (stat I5 n5) st5 stop) fun r s6 ⟨hr, I6⟩ => ?_
      subst hr
      have I7 : Inv X pins σ H5 s6 := I3.call' (ch := fp) I6.os I6.base I6.hok I6.bare fun b hb => ⟨(f3 b hb).1.2.2.2.1, (f3 b hb).1.2.1, (f3 b hb).1.2.2.2.2.1, (f3 b hb).1.2.2.2.2.2⟩
      have nC : H5 s3.heap.objs.size = none := cL ▸ (show H5 ce.locals = none from I6.free)
      obtain ⟨m, hn, _⟩ := I6.loc
      have hn' : s6.heap.Ns s3.heap.objs.size m := cL ▸ (show s6.heap.Ns ce.locals m from hn)
      refine ⟨m, hn', fun h'' sb => ?_⟩
      obtain ⟨z0, z1, z2, z3, z4, z5⟩ := I3.fpOk (Nat.le_refl _) nC
      exact ⟨.ref D, H5, I7.turned (t' := s6.toks) (fun b o hb e => (sb.2 b hb).trans e) z0 z1 z3 z4 z5, rfl, qq⟩
    · refine thnF (T.item (X.blk s3 H3 scope ce fp) rfl rfl rfl hc i [] s5 _ H5 (fun _ _ => False) I5 (stat I5 n5) st5 go) fun r s6 ⟨u, hr, h6⟩ => ?_
      subst hr
      refine thnF h6 fun _ s7 ⟨x, H7, I7, r7, y7, st7, n7⟩ => ?_
      have I7' := I7.pinned (stat I7 n7) (T.obj _ _ st7)
      refine thnF (pg.run _ s7 _ H7 x u _ I7' r7 (step x H7 y7)) fun _ s8 ⟨σ8, H8, I8, hw8, q8⟩ => ?_
      refine thnF (pt.run _ s8 σ8 H8 _ I8 q8) fun b s9 ⟨H9, I9, q9⟩ => ?_
      have fin : ∀ {σ9 : L2.St} {s' : Shared} {H' : Hp}, Inv (X.blk s3 H3 scope ce fp) ([] ++ pinsAt fp s7.heap) σ9 H' s' → (wipe σ (own.map (·.2))).length = σ9.length → (∀ (j : Nat) v, (wipe σ (own.map (·.2)))[j]? = some (some v) → σ9[j]? = some (some v)) → Nx H' →
          ∃ m, m < n ∧ ∃ i H', Inv (X.blk s3 H3 scope ce fp) [] (wipe σ (own.map (·.2))) H' s' ∧ tn i s'.heap ∧ (∀ b ∈ fp, H' b = none) ∧ W i m H' := fun {σ9 s' H'} I' hl hk nx => by
        obtain ⟨m', hm, w'⟩ := hNx H' nx
        have pin' : ∀ b ∈ fp, ∀ o, s7.heap.get? b = some o → s'.heap.get? b = some o ∧ H' b = none := fun b hb o e => by
          have z := I'.pin (b, o) (List.mem_append_right _ (List.mem_append_right _ (mem_pinsAt hb e)))
          exact ⟨z.1, z.2.1⟩
        refine ⟨m', hm, i + 1, H', (I'.unpinned (pins := [])).weak hl hk, T.keep _ _ _ st7 fun b hb o e => (pin' b hb o e).1, fun b hb => ?_, w'⟩
        obtain ⟨o, e, _⟩ := T.obj _ _ st7 b hb
        exact (pin' b hb o e).2
      have hl8 : (wipe σ (own.map (·.2))).length = σ8.length := by rw [← hw8, wipe_length]
      have hk8 : ∀ (j : Nat) v, (wipe σ (own.map (·.2)))[j]? = some (some v) → σ8[j]? = some (some v) := fun j v e => by
        rw [← hw8] at e
        exact (wipe_some e).1
      cases b with
      | false => exact fin I9 hl8 hk8 q9
      | true =>
        simp only [if_true] at q9 ⊢
        refine thnF (pe.run _ s9 σ8 H9 _ I9 q9) fun z s17 ⟨yv, H17, I17, r17, kx, S0, n0, ey, hD17, hz17, nx⟩ => ?_
        subst ey
        exact sgo_add (X := X.blk s3 H3 scope ce fp) (kk := kk) I17 hD17 hz17 r17 fun s18 I18 => fin I18 hl8 hk8 nx
  exact codeAny_compStart_set loop (T.self X.A 0 _ _ _ st4 loop)
end

section
variable {X : Cx}
theorem cr_sortSetI (hc : X.calm = true) : CallR X (.builtin "sorted") (rSortG (kkInt X.prog X.w) fun l => l.Pairwise (· ≤ ·)) := by
  intro pins s σ H vs us Q I r h
  obtain ⟨a, S, n, rfl, ha, q⟩ := h
  rw [Vals.ref1 r]
  refine sorted_start (I.ok.hd hc) (sgo_get I ha) fun s1 ws l k1 z g1 o1 rv nd hm hz hoL => ?_
  have rv' : Vals (l.map V.int) ws := rv
  refine PyProof.Rows.list_sort_treeAny hoL rv'.ints hz fun out ys h1 h2 h3 => ⟨rfl, ?_⟩
  obtain ⟨c, hc'⟩ := sortedHeap_at (vs := ws) (out := out) hoL
  have hlen : (ys.map V.int).length ≤ sizeLine := by rw [List.length_map, h2.length_eq, ← List.length_map (f := V.int), rv'.length]; exact hz
  have hn : H s1.heap.objs.size = none := I.hok.fresh z
  have I2 := I.laid (t' := s1.toks) (o := .lst (ys.map V.int)) (a := s1.heap.objs.size) (h' := sortedHeap (s1.heap.push (seqObj "list" ws.toArray 0)) s1.heap.objs.size ws out) (old_of k1) z ⟨hlen, out.toList, c, vals_of_ints h1, by simpa using hc'⟩
  refine ⟨.ref _, _, ?_, rfl, q ys s1.heap.objs.size (h2.nodup_iff.mpr nd) (fun k => by rw [h2.mem_iff, hm k]) h3 hn⟩
  exact { I2 with os := o1.trans I2.os, bare := by have := I2.bare; rw [← g1] at this; exact this }
end
end SG

set_option Elab.async false
set_option linter.all false
set_option maxRecDepth 100000
set_option maxHeartbeats 4000000
/-! sorted(xs, key=lambda x: (-list(c).count(x), x)), xs whole numbers, c a captured tuple of whole numbers. -/
namespace SL
open PySem PySem.Spec PySem.Calls PyProof.Rows L2 LamX PySem.W
abbrev keyBody (x c : Str) (k : Nat) (p1 p2 p3 p4 p5 p6 p7 p8 p9 : Pos) : Expr := .Tuple [.UnaryOp .USub (.Call (.Attribute (.Call (.Name "list" p1) [.Name c p2] [] p3) "count" p4) [.Name x p5] [] p6) p7, .Name x p8] k p9
structure KeyS (scope : Scope) (x c : Str) : Prop where
  kind : scope.kind = .function
  co : scope.isCoroutine = false
  gen : scope.isGenerator = false
  nocell : ∀ y ∈ scope.names, y.2 ≠ .cell
  loc : scope.names.lookup x = some .local
  free : scope.names.lookup c = some .free
  lst : scope.names.lookup ("list" : Str) = some .globalImplicit
section
variable {prog : Program} {w : World} {A : Around} {s : Shared} {mg mb : Str → Option Value} {f c' tp cc : Addr} {q x c : Str} {params : Arguments} {scope : Scope} {clos : List (Str × Addr)} {pm ctv : Value} {k : Nat} {p1 p2 p3 p4 p5 p6 p7 p8 p9 : Pos}
theorem key_turn (hroom : A.depth < recursionLimit) (hu : A.units + 30 < cLine) (hg : s.heap.Ns mainGlobals mg) (hml : mg "list" = none) (hb : s.heap.Ns builtinsNs mb) (hvl : mb "list" = some (.type "list")) (hlim : s.heap.NoLimit)
    (hf : s.heap.get? f = some (kla_obj "<lambda>" q params (keyBody x c k p1 p2 p3 p4 p5 p6 p7 p8 p9) scope clos pm c' ctv)) (hcr : s.heap.CodeRec (.ref c') q)
    (hbind : ∀ v : Value, bindArgs (kla_fn "<lambda>" q params (keyBody x c k p1 p2 p3 p4 p5 p6 p7 p8 p9) scope clos pm (.ref c') ctv) ⟨[v], []⟩ = pure [(x, v)]) (S : KeyS scope x c) (hline : (p4.endLine == p6.line) = true) (hdx : (x == ("__debug__" : Str)) = false) (hdc : (c == ("__debug__" : Str)) = false) (hdcc : (c == ("__classdict__" : Str)) = false)
    (hcl : clos.lookup c = some cc) (hcell : s.heap.IsCell cc (some (.ref tp))) {o : Obj} {its : Array Value} {n : Nat} {ms : List Int} (ht : s.heap.get? tp = some o) (hoc : o.cls = .type "tuple") (hod : o.data = .seq its n) (hi : IntsAre its.toList ms) (hsz : its.size ≤ sizeLine) (i : Int) (t : Tok) :
    wpAny (model prog w) A (call (.ref f) [.int i t]) (KeyPure (.tuple [.int (-((ms.count i : Nat) : Int)), .int i]) s) (fun _ _ => False) s := by
  refine wpAny_call ?_
  refine kla_callFunE hroom hf rfl S.co S.gen rfl hcr ?_
  rw [hbind]
  refine wpAny_pure (wpAny_newFunctionEnv S.nocell (fun y hy => ?_) (fun h₁ hns hsb => ⟨hlim.fresh _ hsb, ?_⟩) S.kind)
  · rw [List.mem_singleton] at hy
    rw [hy]
    exact S.loc
  show codeAny _ _ (.expr (keyBody x c k p1 p2 p3 p4 p5 p6 p7 p8 p9) (envX q scope s.heap.objs.size f (.ref c') clos)) _ _
  have kp : ∀ b o, s.heap.get? b = some o → h₁.get? b = some o := fun b o e => hsb.extBut b o (Nat.ne_of_lt (Heap.lt_size e)) (Heap.get?_push_of_some _ e)
  refine kla_codeExpr ?_
  have gk : ∀ {h2 : Heap}, (∀ b o, h₁.get? b = some o → h2.get? b = some o) → ∀ b o, s.heap.get? b = some o → h2.get? b = some o := fun k b o e => k b o (kp b o e)
  have hx : (fun y : Str => ([(x, Value.int i t)] : List (Str × Value)).reverse.lookup y) x = some (.int i t) := by
    show ([(x, Value.int i t)] : List (Str × Value)).lookup x = _
    rw [List.lookup_cons_self]
  refine wpAny_mono (Q := fun v s' => KeyPure (.tuple [.int (-((ms.count i : Nat) : Int)), .int i]) s v s') (E := fun _ _ => False) ?_ (fun v s' h => h) fun _ _ h => False.elim h
  refine wpAny_Tuple ?_
  refine spliced_cons (wpAny_UnaryOp ?_)
  refine wpAny_Call_method (T := "list") (id := "list.count") rfl rfl hline PySem.F.plainAttrs_list PySem.F.slot_list_count PySem.F.type_list_count ?_
  refine wpAny_Call_Name_kw (Name_function_global S.kind S.lst (loadGlobal_builtin (hg.keeps kp) hml (hb.keeps kp) hvl ?_))
  refine callWith_type1 (spliced_cons (wpAny_Name (wpAny_loadName_free S.kind S.free hcl (hcell.keeps kp) (spliced_nil ?_) hdcc) hdc))
  refine call_list_seq tp (.inr rfl) (kp _ _ ht) hoc hod (fun h' ep kp' e => ?_) hsz
  refine ⟨⟨_, e, rfl⟩, fun a ha => ⟨_, by cases ha; exact e, rfl⟩, ?_⟩
  refine method_meets PySem.F.slot_list_count PySem.F.entry_list_count rfl (evalArgs_plain (spliced_cons (wpAny_Name (wpAny_loadName_local S.kind S.loc (hns.keeps kp') hx (spliced_nil ?_)) hdx)))
  refine ⟨rfl, ⟨_, e, rfl⟩, PySem.F.args_list_count_2 _ _, _, SeqAt.list_countAt _ its ep none #[] (.int i t) (eqk i), ⟨e, fun y hy => (eqk_gives hi y (by simpa using hy)).at _ _, ?_⟩⟩
  refine neg_int ?_
  rw [eqk_count hi]
  refine spliced_cons (wpAny_Name (wpAny_loadName_local S.kind S.loc (hns.keeps kp') hx (spliced_nil ?_)) hdx)
  exact ⟨by show 2 ≤ sizeLine; rw [sizeLine_eq]; decide, _, _, rfl, fun b o e => Heap.get?_push_of_some _ (kp' _ _ (kp _ _ e)), Reads.tuple (Heap.get?_push_size _ rfl) rfl rfl (.cons (.int _ _) (.cons (.int _ _) .nil))⟩
end
section
variable {X : Cx} {pins : List (Addr × Obj)} {σ : L2.St} {H : Hp} {s : Shared}
/-- a lambda is made: all but the one table stays -/
theorem lam_make3 {T : List (Addr × Str)} {c P : Addr} {params : Arguments} {body : Expr} {scope : Scope} {pos : Pos} {E : Value → Shared → Prop} {Q : Value → Shared → Prop} (I : Inv X pins σ H s) (TB : TabB X.base X.mg c P) (hcode : X.env.code = .ref c)
    (hm : (P, X.env.qual ++ "<lambda>") ∈ T) (hu : ∀ p ∈ T, p.1 = P → p.2 = X.env.qual ++ "<lambda>") (hT : Tabs T H) (hdef : defaultsOf params X.env = ([], [])) (hfree : ∀ y ∈ scope.names, y.2 = .free → ∃ c, X.env.cells.lookup y.1 = some c)
    (h : ∀ (f c' : Addr) (pm ctv : Value) (H1 : Hp) (s' : Shared), Inv X pins σ H1 s' → (∀ b o, H b = some o → b ≠ P → H1 b = some o) → Tabs T H1 →
      s'.heap.get? f = some (kla_obj "<lambda>" (X.env.qual ++ "<lambda>") params body scope (cloFrom X.env.cells scope.names []) pm c' ctv) → H1 c' = some (CodeO c' (X.env.qual ++ "<lambda>")) → Q (.ref f) s') :
    wpAny (model X.prog X.w) X.A (eval (.Lambda params body scope pos) X.env) Q E s := by
  obtain ⟨ps, hP, ht, ha⟩ := hT _ hm
  have hP' := I.hok P _ hP
  have bP := TB.bm.keeps I.bk
  have hG := I.mod.glob.keeps I.bk
  refine kla_eval hdef ?_
  cases hc : codeAmong pos ps.toList with
  | some cv =>
    obtain ⟨c', rfl, hco⟩ := ha pos cv hc
    refine kla_makeFunctionHit (closure_ok hfree) I.ok.glob hG hcode (TB.code.keeps I.bk) hP' ht hc bP fun ctv h' tk hx hsz => ?_
    exact h _ c' _ ctv H _ (I.kept fun b o e => Heap.get?_push_of_some _ (hx b o e)) (fun b o e _ => e) hT (Heap.get?_push_size _ rfl) hco
  | none =>
    refine kla_makeFunction (closure_ok hfree) I.ok.glob hG hcode (TB.code.keeps I.bk) hP' ht hc TB.gP bP fun c' ctv h' tk hx hge hlt hrec htb => ?_
    obtain ⟨c2, oc, vs, t, e2, hoc, hd, hv⟩ := hrec
    cases e2
    have nC : H c' = none := I.hok.fresh hge
    have nPC : P ≠ c' := ne_of_none hP nC
    have st : ∀ b o, H b = some o → b ≠ P → (upd (upd H P (.tbl (ps ++ #[rawInt pos.line, rawInt pos.col, .ref c']))) c' (CodeO c' (X.env.qual ++ "<lambda>"))) b = some o := fun b o e n => by
      rw [upd_ne (ne_of_none e nC), upd_ne n]
      exact e
    refine h h'.objs.size c' _ ctv _ _ (inv_table (t' := tk) (more := #[rawInt pos.line, rawInt pos.col, .ref c']) I hP (fun b o hb e => Heap.get?_push_of_some _ (hx b o hb e)) (Heap.get?_push_of_some _ htb) hge ⟨oc, vs, t, Heap.get?_push_of_some _ hoc, hd, hv⟩) st (fun p hp => ?_) (Heap.get?_push_size _ rfl) upd_same
    have old : ∀ {p' : Pos} {cv : Value} {ps' : Array Value} {q : Str}, (∀ (pos : Pos) (cv : Value), codeAmong pos ps'.toList = some cv → ∃ c, cv = .ref c ∧ H c = some (CodeO c q)) → codeAmong p' ps'.toList = some cv → ∃ c1, cv = .ref c1 ∧ (upd (upd H P (.tbl (ps ++ #[rawInt pos.line, rawInt pos.col, .ref c']))) c' (CodeO c' (X.env.qual ++ "<lambda>"))) c1 = some (CodeO c1 q) := fun {p' cv ps' q} a z => by
      obtain ⟨c0, e1, e2⟩ := a p' cv z
      refine ⟨c0, e1, st _ _ e2 fun z => ?_⟩
      rw [z, hP] at e2
      exact codeO_ne ps (Option.some.inj e2).symm
    by_cases hb : p.1 = P
    · have e2 := hu p hp hb
      rw [hb, e2]
      refine ⟨ps ++ #[rawInt pos.line, rawInt pos.col, .ref c'], by rw [upd_ne nPC, upd_same], ?_, fun p' cv hcv => ?_⟩
      · rw [show (ps ++ #[rawInt pos.line, rawInt pos.col, .ref c']).toList = ps.toList ++ [rawInt pos.line, rawInt pos.col, .ref c'] by simp]
        exact PySem.TriplesOk_snoc _ _ _ _ ht
      · rw [show (ps ++ #[rawInt pos.line, rawInt pos.col, .ref c']).toList = ps.toList ++ [rawInt pos.line, rawInt pos.col, .ref c'] by simp] at hcv
        rcases among_app _ ht hcv with z | z
        · exact old ha z
        · exact ⟨c', z, upd_same⟩
    · obtain ⟨ps', a1, a2, a3⟩ := hT p hp
      exact ⟨ps', st _ _ a1 hb, a2, fun p' cv hcv => old a3 hcv⟩
def kLe (ms : List Int) (i j : Int) : Bool := decide (-((ms.count i : Nat) : Int) < -((ms.count j : Nat) : Int) ∨ (-((ms.count i : Nat) : Int) = -((ms.count j : Nat) : Int) ∧ i ≤ j))
def sortK (ms ns : List Int) : List Int := ns.mergeSort (kLe ms)
theorem vals_each : ∀ {vs : List Value} {ns : List Int}, EachIs (fun v (i : Int) => ∃ t, v = Value.int i t) vs ns → Vals (ns.map V.int) vs
  | _, _, .nil => .nil
  | _, _, .cons r t => .cons r (vals_each t)
theorem each_vals : ∀ {ns : List Int} {vs : List Value}, Vals (ns.map V.int) vs → EachIs (fun v (i : Int) => ∃ t, v = Value.int i t) vs ns
  | [], _, .nil => .nil
  | _ :: _, _, .cons r t => .cons r (each_vals t)
/-- the names that the lambda captures are the maker's cells -/
def capB (sc scope : Scope) : Bool := scope.names.all fun y => !decide (y.2 = .free) || decide (sc.names.lookup y.1 = some .cell)
def keySB (scope : Scope) (x c : Str) : Bool := decide (scope.kind = .function) && !scope.isCoroutine && !scope.isGenerator && (scope.names.all fun y => !decide (y.2 = .cell)) && decide (scope.names.lookup x = some .local) && decide (scope.names.lookup c = some .free) && decide (scope.names.lookup ("list" : Str) = some .globalImplicit)
theorem keyS_by {scope : Scope} {x c : Str} (h : keySB scope x c = true) : KeyS scope x c := by
  unfold keySB at h
  simp only [Bool.and_eq_true, Bool.not_eq_true', decide_eq_true_eq, decide_eq_false_iff_not, List.all_eq_true] at h
  obtain ⟨⟨⟨⟨⟨⟨h1, h2⟩, h3⟩, h4⟩, h5⟩, h6⟩, h7⟩ := h
  exact ⟨h1, h2, h3, h4, h5, h6, h7⟩
def tSortK (K : PySem.W.Frag) (T : List (Addr × Str)) (P : Addr) (j : Nat) (ta : TA) : TE := fun σ H Q => ta σ H fun vs H1 => ∃ (l tp : Addr) (ns ms : List Int), vs = [.ref l] ∧ SqL K H1 l (ns.map V.int) ∧ σ[j]? = some (some (.ref tp)) ∧ SqT K H1 tp (ms.map V.int) ∧ Tabs T H1 ∧
  ∀ (H2 : Hp) (a : Addr), (∀ b o, H1 b = some o → b ≠ P → H2 b = some o) → Tabs T H2 → H2 a = none → Q (.ref a) (upd H2 a (.lst ((sortK ms ns).map V.int)))
theorem pe_sortK {T : List (Addr × Str)} {cd P : Addr} {params : Arguments} {scope : Scope} {x c : Str} {e : Expr} {ta : TA} {j k : Nat} {sp p1 p2 p3 p4 p5 p6 p7 p8 p9 kpos lpos pos : Pos} (hr : X.A.units + 64 < cLine ∧ X.A.depth < recursionLimit) (TB : TabB X.base X.mg cd P) (hcode : X.env.code = .ref cd)
    (hmT : (P, X.env.qual ++ "<lambda>") ∈ T) (hu : ∀ p ∈ T, p.1 = P → p.2 = X.env.qual ++ "<lambda>") (hdef : defaultsOf params X.env = ([], [])) (hcap : capB X.env.scope scope = true) (S : KeyS scope x c) (hN : X.N[j]? = some c) (hcs : X.env.scope.names.lookup c = some .cell)
    (hbind : ∀ (q : Str) (cl : List (Str × Addr)) (pm cv ctv v : Value), bindArgs (kla_fn "<lambda>" q params (keyBody x c k p1 p2 p3 p4 p5 p6 p7 p8 p9) scope cl pm cv ctv) ⟨[v], []⟩ = pure [(x, v)]) (hline : (p4.endLine == p6.line) = true)
    (hdx : (x == ("__debug__" : Str)) = false) (hdc : (c == ("__debug__" : Str)) = false) (hdcc : (c == ("__classdict__" : Str)) = false)
    (ha : PA X [e] ta) (hg : Gl X "sorted") (hm : X.mg "sorted" = none) (hml : X.mg "list" = none)
    (he : backTo pos (starEach [e] X.env) = (false, eval e X.env) :: backTo pos (starEach [] X.env) := by rfl) (hpl : (backTo pos (starEach [e] X.env)).any (·.1) = false := by rfl) :
    PE X (.Call (.Name "sorted" sp) [e] [⟨some "key", .Lambda params (keyBody x c k p1 p2 p3 p4 p5 p6 p7 p8 p9) scope lpos, kpos⟩] pos) (tSortK X.K T P j ta) := by
  refine ⟨fun pins s σ H Q I h => ?_⟩
  refine wpAny_Call_Name_kw (ld_blt (u := .builtin "sorted") I hg hm (by decide +kernel) ?_)
  refine PyProof.Rows.callWith_kw (thn (ha.run pos pins s σ H _ I h) fun us s1 ⟨vs, H1, I1, r1, q1⟩ => ?_) he hpl rfl rfl
  obtain ⟨l, tp, ns, ms, rfl, hl, hσ, htp, hT, q⟩ := q1
  rw [Vals.ref1 r1]
  show wpAny _ _ (evalAll ((do let v ← eval (.Lambda params (keyBody x c k p1 p2 p3 p4 p5 p6 p7 p8 p9) scope lpos) X.env; standAt pos; pure v) :: [])) _ _ s1
  have hfree : ∀ y ∈ scope.names, y.2 = .free → ∃ c, X.env.cells.lookup y.1 = some c := fun y hy e => by
    have z := List.all_eq_true.mp hcap y hy
    rw [Bool.or_eq_true, Bool.not_eq_true', decide_eq_false_iff_not, decide_eq_true_eq] at z
    exact I.ok.has _ (.inl (z.resolve_left fun n => n e))
  refine wpAny_evalAll_cons (wpAny_bind (lam_make3 I1 TB hcode hmT hu hT hdef hfree fun f c' pm ctv H2 s2 I2 eN T2 hf hco => wpAny_bind (wpAny_standAt (wpAny_pure (wpAny_evalAll_nil ?_)))))
  show wpAny _ _ (call (.builtin "sorted") [.ref l] [(Str.ofString "key", .ref f)]) _ _ s2
  have noP : ∀ {b : Addr} {u : HO}, H1 b = some u → (∀ ps, u ≠ .tbl ps) → b ≠ P := fun {b u} e n z => by
    obtain ⟨ps, hP, _⟩ := hT _ hmT
    rw [z] at e
    exact n ps (Option.some.inj (e.symm.trans hP))
  have up : ∀ {b : Addr} {u : HO}, (∀ ps, u ≠ .tbl ps) → (∀ o ps, HO.frz o u ≠ .tbl ps) → Rd H1 b u → Rd H2 b u := fun {b u} n n2 z => z.elim (fun e => .inl (eN _ _ e (noP e n))) fun ⟨o, e⟩ => .inr ⟨o, eN _ _ e (noP e (n2 o))⟩
  have hl2 : SqL X.K H2 l (ns.map V.int) := hl.elim (fun z => .inl (up (fun ps z => by cases z) (fun o ps z => by cases z) z)) .inr
  have htp2 : SqT X.K H2 tp (ms.map V.int) := htp.elim (fun z => .inl (up (fun ps z => by cases z) (fun o ps z => by cases z) z)) .inr
  obtain ⟨its, rv, pl, hz⟩ := I2.list hl2
  obtain ⟨tits, trv, ⟨ot, hot, hoc, nt, hod⟩, tz⟩ := I2.tuple htp2
  obtain ⟨⟨oc, vs', t', hoc', hdc', hvc'⟩, _, _⟩ := I2.hok c' _ hco
  obtain ⟨m, hn, hloc⟩ := I2.loc
  obtain ⟨uc, rc, lc⟩ := hloc j c (.ref tp) hN hσ (.inr (.inl hcs))
  obtain rfl : uc = Value.ref tp := rc
  obtain ⟨cc, hcl, hcell⟩ : ∃ cc, X.env.cells.lookup c = some cc ∧ s2.heap.IsCell cc (some (.ref tp)) := by
    rcases lc with ⟨k1, _⟩ | ⟨_, z⟩
    · rw [show X.env.kindOf c = X.env.scope.names.lookup c from rfl, hcs] at k1
      cases k1
    · exact z
  have hclo : (cloFrom X.env.cells scope.names []).lookup c = some cc := by
    obtain ⟨c1, h1⟩ := mem_lookup (cloFrom_has (cells := X.env.cells) (acc := []) (PySem.mem_of_lookup S.free))
    rcases cloFrom_mem (PySem.mem_of_lookup h1) with z | ⟨_, z⟩
    · cases z
    · rw [hcl] at z
      rw [h1, z]
      rfl
  obtain ⟨mb, hb1, hb2⟩ := I2.mod.blt
  have hns : ns.length ≤ sizeLine := by rw [List.length_map] at hz; exact hz
  refine sorted_key_data (b := false) (bs := ns) (fun i : Int => .tuple [.int (-((ms.count i : Nat) : Int)), .int i]) pl.isList (each_vals rv) (AllAlike.of fun _ _ => by simp [alike, alikeAll]) (Sortable.tuples fun _ => ⟨_, _, rfl⟩) hns (fun i _ => ?_) (ksk_s1 _ _) (fun _ => ksk_l1 _ _) (fun _ => ksk_t1 _ _) (fun v i hv _ hh tk kp => ?_) fun out ep h' tk kp hno hD hlen eo => ?_
  · have hd : (PyData.tuple [.int (-((ms.count i : Nat) : Int)), .int i]).depth = 1 := by simp [PyData.depth, PyData.depthAll]
    rw [hd]
    have := hr.1
    omega
  · obtain ⟨t, rfl⟩ := hv
    refine key_turn (s := { s2 with heap := hh, toks := tk }) (mg := X.mg) (mb := mb) (A := X.A.in1.in1) (show X.A.in1.in1.depth < recursionLimit from hr.2) ?_ ((I2.mod.glob.keeps I2.bk).keeps kp) hml ((hb1.keeps I2.bk).keeps kp) ((hb2 _ (by decide)).trans (by decide +kernel)) (I2.nolimit.keeps kp) (kp _ _ hf) ⟨c', oc, vs', t', rfl, kp _ _ hoc', hdc', hvc'⟩ (fun v => hbind _ _ _ _ _ v) S hline hdx hdc hdcc hclo (hcell.keeps kp) (kp _ _ hot) hoc hod (ints_of_vals trv) ?_ i t
    · show X.A.units + 1 + 1 + 30 < cLine
      have := hr.1
      omega
    · rw [List.size_toArray, ← trv.length]
      exact tz
  · rw [dataLe_ii (fun i : Int => -((ms.count i : Nat) : Int)) (fun i => i)] at eo
    have rv2 : Vals ((sortK ms ns).map V.int) out := vals_each eo
    refine ⟨.ref _, upd H2 (s2.heap.objs.size + 1) (.lst ((sortK ms ns).map V.int)), I2.laid (t' := tk) kp (Nat.le_succ _) ⟨?_, out, ep, rv2, by simpa using hD⟩, rfl, q H2 _ eN T2 (I2.hok.fresh (Nat.le_succ _))⟩
    rw [rv2.length, hlen]
    exact hns
end
end SL

set_option Elab.async false
set_option linter.all false
set_option maxRecDepth 100000
set_option maxHeartbeats 4000000
/-! The data layer: sorted({whole numbers}), sorted(xs, key=lambda x: (-list(c).count(x), x)). -/
namespace DL
open PySem PySem.Spec PyProof.Rows L2 SG SL
def isIntD : D → Bool
  | .int _ => true
  | _ => false
/-- sets of whole numbers -/
def accI (X : Cx) (fa : Option FA) : AccK X fa where
  u0 := fun a => SGO (kkInt X.prog X.w) a (fun _ => false) 0
  item := fun a te σ H Nx => tAdd (kkInt X.prog X.w) a te σ H Nx
  At := fun F a acc u => ∃ (ks : List Int) (S : Int → Bool) (n : Nat), acc = ks.map D.int ∧ u = SGO (kkInt X.prog X.w) a S n ∧ n ≤ acc.length ∧ ∀ k, S k = true ↔ k ∈ ks
  lim := 4000
  okI := isIntD
  start := fun F a => ⟨[], _, 0, rfl, rfl, Nat.zero_le _, fun k => by simp⟩
  mono := fun F F' a acc u e h => h
  nt := fun F a acc u ⟨ks, S, n, _, h, _⟩ => by rw [h]; exact sg_noTab
  add := fun a F H σ ρ s s' f y acc Nx h1 h2 h3 hf ok hl k => by
    refine ⟨F, ρ, s, h1, h2, h3, ?_⟩
    rw [hf]
    intro v F' H' e o r
    obtain ⟨u, hu, ⟨ks, S, n, ea, rfl, hn, hm⟩, q⟩ := k v F' H' e o r
    cases y with
    | int x =>
      cases r
      have hb : scanBound = 4096 := rfl
      refine ⟨x, S, n, rfl, hu, by omega, q _ ⟨ks ++ [x], _, _, by rw [ea, List.map_append]; rfl, rfl, ?_, fun k => ?_⟩⟩
      · rw [List.length_append]
        show (if S x = true then n else n + 1) ≤ acc.length + 1
        split <;> omega
      · rw [Bool.or_eq_true, decide_eq_true_eq, List.mem_append, List.mem_singleton, hm k]
    | _ => cases ok
def ddI : List Int → List Int
  | [] => []
  | x :: r => if x ∈ r then ddI r else x :: ddI r
theorem ddI_mem (x : Int) : ∀ l : List Int, x ∈ ddI l ↔ x ∈ l
  | [] => Iff.rfl
  | y :: r => by
    unfold ddI
    split
    · rename_i h
      rw [ddI_mem x r, List.mem_cons]
      exact ⟨.inr, fun q => q.elim (fun e => e ▸ h) id⟩
    · rw [List.mem_cons, List.mem_cons, ddI_mem x r]
theorem ddI_nodup : ∀ l : List Int, (ddI l).Nodup
  | [] => List.Pairwise.nil
  | y :: r => by
    unfold ddI
    split
    · exact ddI_nodup r
    · rename_i h
      exact List.nodup_cons.mpr ⟨fun q => h ((ddI_mem y r).mp q), ddI_nodup r⟩
def sortDdI (ks : List Int) : List Int := sortI (ddI ks)
theorem sortDdI_eq {ks l : List Int} (h1 : l.Nodup) (h2 : ∀ k, k ∈ l ↔ k ∈ ks) (h3 : l.Pairwise (· ≤ ·)) : l = sortDdI ks := by
  refine sortI_eq ?_ h3
  refine (List.perm_ext_iff_of_nodup h1 (ddI_nodup ks)).mpr fun k => ?_
  rw [h2, ddI_mem]
theorem intsD_map : ∀ ks : List Int, intsD (ks.map D.int) = some ks
  | [] => rfl
  | k :: r => by show (intsD (r.map D.int)).map _ = _; rw [intsD_map r]; rfl
def sortSetID (xs : List D) : Option D := (intsD xs).map fun ks => .lst ((sortDdI ks).map .int)
def dLc1 (lim : Nat) (okI : D → Bool) (it : Env' → M (List D)) (b : D → Option Asg) (c : Env' → M Bool) (f : Env' → M D) : Env' → M (List D) := fun ρ => (it ρ).bind fun xs => (M.quiet (lcE b c f xs ρ)).bind fun ys => if fitsL lim okI ys = true then M.pure ys else M.bad
def dSortSet1 (it : Env' → M (List D)) (b : D → Option Asg) (c : Env' → M Bool) (f : Env' → M D) : Env' → M D := fun ρ => (dLc1 4000 isIntD it b c f ρ).bind fun ys => M.lift (sortSetID ys)
section
variable {X : Cx} {fa : Option FA} {Wσ : L2.St → XK}
theorem ed_sortSet1 {tg iter elt : Expr} {ifs : List Expr} {scope : Scope} {own : List (Str × Nat)} {pos p cpos : Pos} {it : Env' → M (List D)} {b : D → Option Asg} {c : Env' → M Bool} {f : Env' → M D} {ns : List Nat} (hm : X.mg "sorted" = none) (hc : X.calm = true) (hN : X.N.Nodup) (hi : IJ X fa Wσ tg iter it) (ok : BlkOk X.N X.env.scope scope own)
    (hin : ∀ n ∈ ns, n ∈ own.map (·.2)) (hni : ∀ n ∈ own.map (·.2), n ∈ ns)
    (hg : BlkD X scope fun Y => TJ Y tg ns b) (ht : BlkD X scope fun Y => PTsD Y fa Wno ifs c) (he : BlkD X scope fun Y => ED Y fa Wno elt f)
    (hs : ∀ x, foldedSetIterable iter X.env x = pure x := by intro _; rfl) (hgl : Gl X "sorted" := by rfl)
    (hst : starEach [.SetComp elt [⟨tg, iter, ifs, 0⟩] scope pos] X.env = [(false, eval (.SetComp elt [⟨tg, iter, ifs, 0⟩] scope pos) X.env)] := by rfl) :
    ED X fa Wσ (.Call (.Name "sorted" p) [.SetComp elt [⟨tg, iter, ifs, 0⟩] scope pos] [] cpos) (dSortSet1 it b c f) := by
  obtain ⟨wi, pi, ki⟩ := hi
  have pe := pe_set1 (kk := kkInt X.prog X.w) (tt := tStarB X fa Wno c) (te := tStar X fa Wno f) (g := gStar X ns b) (pos := pos) hc hN pi ok (fun s H C cl fp => (hg s H C cl fp).star) (fun s H C cl fp => (ht s H C cl fp).star) (fun s H C cl fp => (he s H C cl fp).star) hs
  refine ⟨_, pe_callB (cr_sortSetI hc) hgl hm (by decide +kernel) (pa_cons pe pa_nil hst), fun σ F H ρ s Q h1 h2 h3 h => ?_⟩
  change tSet1 (kkInt X.prog X.w) wi (gStar X ns b) (tStarB X fa Wno c) (tStar X fa Wno f) (own.map (·.2)) σ H (fun x H' => rSortG (kkInt X.prog X.w) (fun l => l.Pairwise (· ≤ ·)) [x] H' Q)
  refine ki σ F H ρ s _ h1 h2 h3 ?_
  change Good X fa (Wσ σ) F H (((it ρ s).bnd _).bnd _) Q at h
  generalize it ρ s = r at h
  cases r with
  | bad => exact absurd h (Good.tgt.bad F H)
  | err e s' => exact Good.tgt.err F H e s' h
  | ok xs s0 =>
    intro J F1 H1 e1 o1 wj D' hD
    change Good X fa (Wσ σ) F H (((M.quiet (lcE b c f xs ρ) s0).bnd fun ys => if fitsL 4000 isIntD ys = true then M.pure ys else M.bad).bnd fun ys => M.lift (sortSetID ys)) Q at h
    unfold M.quiet at h
    cases hq : lcE b c f xs ρ s0 with
    | bad => rw [hq] at h; exact absurd h (Good.tgt.bad F H)
    | err e s' => rw [hq] at h; exact absurd h (Good.tgt.bad F H)
    | ok ys s9 =>
      rw [hq] at h
      change Good X fa (Wσ σ) F H (((if fitsL 4000 isIntD ys = true then M.pure ys else M.bad) s9).bnd fun ys => M.lift (sortSetID ys)) Q at h
      by_cases hf : fitsL 4000 isIntD ys = true
      · rw [if_pos hf] at h
        have fD : F1 D' = none := Same.free e1.fh hD
        have G00 : GSt X fa (accI X fa) F1 H1 D' F1 (upd H1 D' ((accI X fa).u0 D')) [] s0 := ⟨(Ext.refl e1.fh).newH hD, o1.newH hD, fD, hD, nfa_fresh o1 hD, _, upd_same, (accI X fa).start F1 D'⟩
        refine g2_in (C := accI X fa) wj hin hni (us := ys) (zs := []) (ys := ys) G00 (h3.mono e1.ff) hq (by simp) hf fun F' H' G _ => ?_
        obtain ⟨u, hu, ks, S, n, ea, rfl, hn, hmem⟩ := G.at_
        rw [List.nil_append] at ea
        refine ⟨D', S, n, rfl, hu, fun l q hnd hl hsrt hq' => ?_⟩
        have e : l = sortDdI ks := sortDdI_eq hnd (fun k => (hl k).trans (hmem k)) hsrt
        subst e ea
        change Good X fa (Wσ σ) F H (M.lift (sortSetID (ks.map D.int)) s9) Q at h
        unfold sortSetID at h
        rw [intsD_map] at h
        have hg2 := Good.tgt.of_ext (e1.trans G.ext) h
        exact Good.new G.ext.fh G.fd hq' (.lst upd_same (RepL.ints _)) hg2
      · rw [if_neg hf] at h
        exact absurd h (Good.tgt.bad F H)
/-- sorted(xs, key=lambda x: (-list(c).count(x), x)), c in slot j -/
def sortKD : Option (Option D) → List D → Option D
  | some (some (.tup cs)), [.lst xs] => (intsD cs).bind fun ms => (intsD xs).map fun ns => .lst ((sortK ms ns).map .int)
  | _, _ => none
def dSortK (j : Nat) (fl : Env' → M (List D)) : Env' → M D := fun ρ => (fl ρ).bind fun xs => M.lift (sortKD ρ[j]? xs)
theorem ed_sortK {T : List (Addr × Str)} {cd P : Addr} {fl : Env' → M (List D)} {params : Arguments} {scope : Scope} {x c : Str} {e : Expr} {j k : Nat} {sp p1 p2 p3 p4 p5 p6 p7 p8 p9 kpos lpos pos : Pos} (hfa : ∀ φ, fa = some φ → φ.tabs = T) (hfs : fa.isSome = true) (hr : X.A.units + 64 < cLine ∧ X.A.depth < recursionLimit) (TB : LamX.TabB X.base X.mg cd P) (hcode : X.env.code = .ref cd)
    (hmT : (P, X.env.qual ++ "<lambda>") ∈ T) (hu : ∀ p ∈ T, p.1 = P → p.2 = X.env.qual ++ "<lambda>") (hdef : defaultsOf params X.env = ([], [])) (hcap : capB X.env.scope scope = true) (S : KeyS scope x c) (hN : X.N[j]? = some c) (hcs : X.env.scope.names.lookup c = some .cell)
    (hbind : ∀ (q : Str) (cl : List (Str × Addr)) (pm cv ctv v : Value), bindArgs (PySem.W.kla_fn "<lambda>" q params (keyBody x c k p1 p2 p3 p4 p5 p6 p7 p8 p9) scope cl pm cv ctv) ⟨[v], []⟩ = pure [(x, v)]) (hline : (p4.endLine == p6.line) = true)
    (hdx : (x == ("__debug__" : Str)) = false) (hdc : (c == ("__debug__" : Str)) = false) (hdcc : (c == ("__classdict__" : Str)) = false)
    (ha : LD X fa Wσ [e] fl) (hg : Gl X "sorted") (hm : X.mg "sorted" = none) (hml : X.mg "list" = none)
    (he : ∀ pos, backTo pos (starEach [e] X.env) = (false, eval e X.env) :: backTo pos (starEach [] X.env)) (hpl : ∀ pos, (backTo pos (starEach [e] X.env)).any (·.1) = false) :
    ED X fa Wσ (.Call (.Name "sorted" sp) [e] [⟨some "key", .Lambda params (keyBody x c k p1 p2 p3 p4 p5 p6 p7 p8 p9) scope lpos, kpos⟩] pos) (dSortK j fl) := by
  obtain ⟨ta, pa, ka⟩ := ha
  refine ⟨_, pe_sortK (T := T) hr TB hcode hmT hu hdef hcap S hN hcs hbind hline hdx hdc hdcc pa hg hm hml (he _) (hpl _), fun σ F H ρ s Q h1 h2 h3 h => ?_⟩
  refine ka.then Good.tgt h1 h2 h3 h fun xs s1 vs F1 H1 e1 o1 r1 v1 h' => ?_
  obtain ⟨φ, rfl⟩ := Option.isSome_iff_exists.mp hfs
  have eT := hfa φ rfl
  have key : ∃ cs ys ms ns, ρ[j]? = some (some (.tup cs)) ∧ xs = [.lst ys] ∧ intsD cs = some ms ∧ intsD ys = some ns ∧ Good X (some φ) (Wσ σ) F1 H1 (.ok (.lst ((sortK ms ns).map .int)) s1) Q := by
    generalize ho : ρ[j]? = o at h'
    unfold sortKD at h'
    split at h'
    · rename_i cs ys
      cases q1 : intsD cs with
      | none => rw [q1] at h'; exact h'.elim
      | some ms =>
        cases q2 : intsD ys with
        | none => rw [q1, q2] at h'; exact h'.elim
        | some ns => rw [q1, q2] at h'; exact ⟨cs, ys, ms, ns, rfl, rfl, q1, q2, h'⟩
    · exact h'.elim
  obtain ⟨cs, ys, ms, ns, ho, rfl, q1, q2, hG⟩ := key
  obtain ⟨v, hσ, rv⟩ := v1.2 j _ ho
  cases rv with
  | tup hq2 r2 =>
    cases r1 with
    | cons r t =>
      cases t
      cases r with
      | lst hq r =>
        obtain rfl := intsD_rep q2 r
        obtain rfl := intsD_rep q1 r2
        obtain ⟨g1, g2, ⟨g3, g4⟩, g5⟩ := o1 φ rfl
        rw [eT] at g4
        refine ⟨_, _, ns, ms, rfl, SqL.of (e1.fh _ _ hq), hσ, same_seqT e1.fh hq2, g4.2, fun H2 a kp T2 ha => ?_⟩
        have fP : F1 P = none := g4.1 _ hmT
        obtain ⟨ps, hP, _⟩ := g4.2 _ hmT
        obtain ⟨ps2, hP2, _⟩ := T2 _ hmT
        have nP : ∀ {b : Addr} {o : HO}, F1 b = some o → b ≠ P := fun {b o} e z => by rw [z, fP] at e; cases e
        have ext : Ext (some φ) F1 H1 F1 H2 := ⟨Same.refl _, fun b o e => kp b o (e1.fh b o e) (nP e), fun b o e n => kp b o e fun z => (n φ rfl).2 (P, X.env.qual ++ "<lambda>") (by rw [eT]; exact hmT) z.symm, fun _ _ => rfl, fun b e => by
          cases q : H1 b with
          | none => exact absurd q e
          | some o =>
            by_cases hb : b = P
            · rw [hb, hP2]; simp
            · rw [kp b o q hb]; simp⟩
        have fo : FeedOk X.K (some φ) F1 H2 s1 := fun ψ e => by
          cases e
          refine ⟨g1, g2, ⟨kp _ _ g3 fun z => ?_, ?_⟩, g5⟩
          · rw [z, hP] at g3
            cases g3
          · rw [eT]
            exact ⟨g4.1, T2⟩
        exact Good.new ext.fh fo ha (.lst upd_same (RepL.ints _)) (Good.tgt.of_ext ext hG)
end
end DL

set_option Elab.async false
set_option linter.all false
set_option maxRecDepth 100000
set_option maxHeartbeats 4000000
/-! The data layer: a def that makes a lambda; its table of code objects is told by the feed. -/
namespace DL
open PySem PySem.Spec PyProof.Rows L2
def DSpT (K : PySem.W.Frag) (mg : Str → Option Value) (T : List (Addr × Str)) (g : List D → M D) : Sp := fun vs H Q E =>
  ∃ φ F s ds, φ.tabs = T ∧ Same F H ∧ FeedOk K (some φ) F H s ∧ RepL K (some φ) F ds vs ∧ GoodK K mg (some φ) E F H (g ds s) Q
section
variable {P : Program} {w : World} {K : PySem.W.Frag} {mg : Str → Option Value} {base : Heap}
theorem fn_dT {T : List (Addr × Str)} {cd : Addr} {x qual : Str} {st : Stmt} {f : Addr} {fd : FuncData} {N ps : List Str} {k : Nat} {body : Sts → M (Fl × Sts)} (F : Fun K x qual st f fd) (hcd : fd.code = .ref cd) (S : FnScope N ps (defScope st)) (hN : ps.length ≤ N.length)
    (hbody : ∀ (A : Around) (outer : List Env) (s : Shared) (H : Hp) (E : XK) (φ : FA), φ.tabs = T → Room k (A.deeper (envOfC qual (defScope st) s.heap.objs.size f (.ref cd))) →
      SSJ (cxOf (L2.CX P w) P w K mg base N qual (defScope st) f (.ref cd) A outer s H E) (some φ) E (defBody st) body) :
    FnOk P w K mg base (L2.CX P w) (k + 1) f fd ps (DSpT K mg T (runD N.length ps.length body)) := by
  obtain ⟨oc, od, kV, doc, pm, an, cdv, ct, osl, rfl, lk, hq⟩ := F.ex
  obtain rfl : cdv = .ref cd := hcd
  refine fn_of lk hq S (fun vs H Q E h => ?_) fun A outer s H vs Q E hr h => ?_
  · obtain ⟨φ, F, s, ds, _, h1, h2, r, g⟩ := h
    exact dsp_len ⟨some φ, F, s, ds, h1, h2, r, g⟩
  obtain ⟨φ, Fz, fs, ds, hφ, h1, h2, r, g⟩ := h
  obtain ⟨t, p, kk⟩ := hbody A outer s H E φ hφ hr
  refine ⟨t, p, ?_⟩
  unfold runD at g
  by_cases e : ds.length = ps.length
  · rw [if_pos e] at g
    have S0 := SOk.start (N := N) h1 h2 r (by omega)
    rw [e] at S0
    refine kk Fz Fz H Fz H _ _ _ fs _ S0 ?_
    change GoodK K mg (some φ) E Fz H ((body (ds.map EV.d ++ List.replicate (N.length - ps.length) .no) fs).bnd _) Q at g
    generalize body (ds.map EV.d ++ List.replicate (N.length - ps.length) .no) fs = rr at g
    cases rr with
    | bad => exact g
    | err e s' => exact g
    | ok q s' =>
      obtain ⟨fl, ρ'⟩ := q
      cases fl with
      | nx => exact fun σ' F' H' A' S' => g .non F' H' S'.ext S'.fd .non
      | rt d => exact fun v F' H' ex fo rv _ => g v F' H' ex fo rv
      | bk => exact g.elim
      | ct => exact g.elim
  · rw [if_neg e] at g
    exact g.elim
structure CalT (P : Program) (w : World) (K : PySem.W.Frag) (mg : Str → Option Value) (base : Heap) (k : Nat) (x : Str) (ps : List Str) (T : List (Addr × Str)) (g : List D → M D) : Prop where
  ex : ∃ f fd, FnOk P w K mg base (L2.CX P w) k f fd ps (DSpT K mg T g) ∧ mg x = some (.ref f) ∧ PySem.W.keepIn K (.ref f) = true ∧ Binds K fd ps []
theorem calt_mk {T : List (Addr × Str)} {x : Str} {ps : List Str} {st : Stmt} {k : Nat} {g : List D → M D} {f : Addr} {fd : FuncData} (F : Fun K x x st f fd) (hm : mg x = some (.ref f)) (hb : Binds K fd ps []) (h : FnOk P w K mg base (L2.CX P w) k f fd ps (DSpT K mg T g)) : CalT P w K mg base k x ps T g := ⟨f, fd, h, hm, F.kp, hb⟩
end
section
variable {X : Cx} {fa : Option FA} {W : L2.St → XK} {e : Expr} {es : List Expr} {pos p : Pos} {fl : Env' → M (List D)}
theorem ed_calT {T : List (Addr × Str)} {k : Nat} {ps : List Str} {g : List D → M D} {x : Str} (C : CalT X.prog X.w X.K X.mg X.base k x ps T g) (hT : ∀ φ, fa = some φ → φ.tabs = T) (hs : fa.isSome = true) (hr : Room k X.A) (hx : ∀ σ, PassesAt (L2.CX X.prog X.w) X σ (W σ)) (ha : LD X fa W (e :: es) fl) (hg : Gl X x := by rfl) (hdb : (x == ("__debug__" : Str)) = false := by decide)
    (he : starEach (e :: es) X.env = (false, eval e X.env) :: starEach es X.env := by rfl) (hpl : (backTo pos (starEach es X.env)).any (·.1) = false := by rfl) : ED X fa W (.Call (.Name x p) (e :: es) [] pos) (dCall g fl) := by
  obtain ⟨f, fd, F, hm, hk, hb⟩ := C.ex
  obtain ⟨ta, pa, ka⟩ := ha
  refine ⟨_, pe_callS F hr hg hm hk hb hx pa hdb he hpl, fun σ F H ρ s Q h1 h2 h3 h => ?_⟩
  refine ka.then Good.tgt h1 h2 h3 h fun x s1 v F1 H1 e1 o1 r1 v1 h' => ?_
  obtain ⟨φ, rfl⟩ := Option.isSome_iff_exists.mp hs
  exact ⟨φ, F1, s1, x, hT φ rfl, e1.fh, o1, r1, h'⟩
end
end DL

set_option Elab.async false
set_option linter.all false
set_option maxRecDepth 100000
set_option maxHeartbeats 4000000
/-! The data layer: sorted of a list of pairs of a whole number and a tuple of whole numbers. -/
namespace DL
open PySem PySem.Spec PyProof.Rows L2 PySem.W
abbrev PQ : Type := Addr × Addr × Int × List Int
def pEnc (p : Int × List Int) : PyData := .tuple [.int p.1, .tuple (p.2.map .int)]
def pLe (p q : Int × List Int) : Bool := decide (p.1 < q.1 ∨ (p.1 = q.1 ∧ p.2 ≤ q.2))
theorem alike_t (xs ys : List Int) : alike (.tuple (xs.map .int)) (.tuple (ys.map .int)) = true := by
  have h := alike_ints xs ys
  simpa [alike] using h
theorem alike_p (p q : Int × List Int) : alike (pEnc p) (pEnc q) = true := by
  have h := alike_t p.2 q.2
  simp only [pEnc, alike, alikeAll, Bool.and_true, Bool.true_and] at h ⊢
  simpa using h
theorem eqvAll_ints : ∀ xs ys : List Int, PyData.eqvAll (xs.map .int) (ys.map .int) = true → xs = ys
  | [], [], _ => rfl
  | [], y :: ys, h => by simp [PyData.eqvAll] at h
  | x :: xs, [], h => by simp [PyData.eqvAll] at h
  | x :: xs, y :: ys, h => by
    simp only [List.map_cons, PyData.eqvAll, PyData.eqv, Bool.and_eq_true, beq_iff_eq] at h
    rw [h.1, eqvAll_ints xs ys h.2]
theorem eqv_ints (xs ys : List Int) (h : PyData.eqv (.tuple (xs.map .int)) (.tuple (ys.map .int)) = true) : xs = ys := by
  rw [PyData.eqv] at h
  exact eqvAll_ints xs ys h
theorem dataLt_p (p q : Int × List Int) : dataLt (pEnc p) (pEnc q) = decide (p.1 < q.1 ∨ (p.1 = q.1 ∧ p.2 < q.2)) := by
  unfold pEnc
  rw [dataLt_pair (by simp [alike]) (alike_t p.2 q.2), dataLt_int]
  have e2 : dataLt (.tuple (p.2.map .int)) (.tuple (q.2.map .int)) = decide (p.2 < q.2) := (dataLt_tuple _ _).trans (dataLt_ints p.2 q.2)
  rw [e2]
  have e3 : (PyData.eqv (.int p.1) (.int q.1) = true) = (p.1 = q.1) := by rw [PyData.eqv]; simp
  by_cases h1 : p.1 = q.1
  · rw [if_pos (by rw [e3]; exact h1)]
    cases e4 : PyData.eqv (.tuple (p.2.map .int)) (.tuple (q.2.map .int)) with
    | true =>
      rw [if_pos rfl]
      have e := eqv_ints _ _ e4
      refine (decide_eq_false ?_).symm
      rintro (h | ⟨_, h⟩)
      · omega
      · rw [e] at h
        exact List.lt_irrefl _ h
    | false =>
      rw [if_neg Bool.false_ne_true]
      refine decide_eq_decide.mpr ⟨fun h => .inr ⟨h1, h⟩, fun h => ?_⟩
      rcases h with h | ⟨_, h⟩
      · omega
      · exact h
  · rw [if_neg (by rw [e3]; exact h1)]
    refine decide_eq_decide.mpr ⟨.inl, fun h => ?_⟩
    rcases h with h | ⟨h, _⟩
    · exact h
    · exact absurd h h1
theorem dataLe_p : dataLe false pEnc = pLe := by
  funext p q
  show (!dataLt (pEnc q) (pEnc p)) = _
  rw [dataLt_p]
  unfold pLe
  rw [← decide_not]
  refine decide_eq_decide.mpr ⟨fun h => ?_, fun h => ?_⟩
  · have h2 : ¬ q.1 < p.1 := fun z => h (.inl z)
    by_cases h3 : p.1 = q.1
    · exact .inr ⟨h3, List.not_lt.mp fun z => h (.inr ⟨h3.symm, z⟩)⟩
    · exact .inl (by omega)
  · rintro (z | ⟨z1, z2⟩)
    · rcases h with h | ⟨h, _⟩ <;> omega
    · rcases h with h | ⟨_, h⟩
      · omega
      · exact List.not_lt.mpr h z2
theorem ints_depth : ∀ l : List Int, PyData.depthAll (l.map .int) = 0
  | [] => by simp [PyData.depthAll]
  | x :: r => by simp [PyData.depthAll, PyData.depth, ints_depth r]
theorem pEnc_depth (p : Int × List Int) : (pEnc p).depth ≤ 3 := by
  simp [pEnc, PyData.depth, PyData.depthAll, ints_depth]
def rSortPQ (K : PySem.W.Frag) : List V → Hp → VK → Prop := fun vs H Q => ∃ (a : Addr) (ps : List PQ), vs = [V.ref a] ∧ SqL K H a (ps.map fun p => V.ref p.1) ∧ (∀ p ∈ ps, SqT K H p.1 [.int p.2.2.1, .ref p.2.1] ∧ SqT K H p.2.1 (p.2.2.2.map V.int)) ∧
  ∀ l, H l = none → Q (.ref l) (upd H l (.lst ((ps.mergeSort fun p q => pLe p.2.2 q.2.2).map fun p => V.ref p.1)))
theorem each_refs {R : Value → PQ → Prop} (h : ∀ v p, R v p → v = Value.ref p.1) : ∀ {vs : List Value} {ps : List PQ}, EachIs R vs ps → Vals (ps.map fun p => V.ref p.1) vs
  | _, _, .nil => .nil
  | _, _, .cons r t => .cons (h _ _ r) (each_refs h t)
theorem refs_each : ∀ {ps : List PQ} {vs : List Value}, Vals (ps.map fun p => V.ref p.1) vs → EachIs (fun v (p : PQ) => v = Value.ref p.1 ∧ p ∈ ps) vs ps
  | [], _, .nil => .nil
  | p :: ps, _, .cons r t => .cons ⟨r, .head _⟩ ((refs_each t).mono fun _ _ h => ⟨h.1, .tail _ h.2⟩)
theorem reads_ints {h : Heap} : ∀ {us : List Value} {ns : List Int}, IntsAre us ns → ReadsAll h us (ns.map .int) []
  | _, _, .nil => .nil
  | _, _, .cons n t r => .cons (.int n t) (reads_ints r)
section
variable {X : Cx} {fa : Option FA}
theorem cr_sortPQ (hu : X.A.units + 64 < cLine) : CallR X (.builtin "sorted") (rSortPQ X.K) := by
  intro pins s σ H vs us Q I r h
  obtain ⟨a, ps, rfl, hs, hp, q⟩ := h
  obtain ⟨its, rv, pl, hz⟩ := I.list hs
  rw [Vals.ref1 r]
  rw [List.length_map] at hz
  have ee := refs_each rv
  refine sorted_data (enc := fun p : PQ => pEnc p.2.2) pl.isList ee (ee.mono fun v p hv => ?_) (AllAlike.of fun _ _ => alike_p _ _) (Sortable.tuples fun _ => ⟨_, _, rfl⟩) hz (fun p _ => ?_) fun out hl eo => ?_
  · obtain ⟨rfl, hm⟩ := hv
    obtain ⟨h1, h2⟩ := hp p hm
    obtain ⟨u1, r1, ⟨o1, g1, c1, n1, d1⟩, _⟩ := I.tuple h1
    obtain ⟨u2, r2, ⟨o2, g2, c2, n2, d2⟩, _⟩ := I.tuple h2
    obtain ⟨w1, w2, rfl, q1, q2⟩ := vals2 r1
    obtain ⟨t1, rfl⟩ := q1
    obtain rfl : w2 = Value.ref p.2.1 := q2
    exact ⟨_, Reads.tuple g1 c1 d1 (.cons (.int _ _) (.cons (Reads.tuple g2 c2 d2 (reads_ints (ints_of_vals r2))) .nil))⟩
  · have hd := pEnc_depth p.2.2
    omega
  · have e2 : dataLe false (fun p : PQ => pEnc p.2.2) = fun p q => pLe p.2.2 q.2.2 := by
      funext p q
      exact congrFun (congrFun dataLe_p p.2.2) q.2.2
    rw [e2] at eo
    have rv2 := each_refs (fun v p h => h.1) eo
    obtain ⟨ep, he'⟩ := PyProof.Rows.sortedAll_at s.heap its (List.toArray out)
    refine ⟨.ref _, upd H (s.heap.objs.size + 1) (.lst ((ps.mergeSort fun p q => pLe p.2.2 q.2.2).map fun p => V.ref p.1)), I.laid (t' := s.toks) (fun _ _ => PyProof.Rows.sortedAll_old) (Nat.le_succ _) ⟨by rw [rv2.length, hl]; exact hz, out, ep, rv2, by simpa using he'⟩, rfl, q _ (I.hok.fresh (Nat.le_succ _))⟩
def pairI : D → Option (Int × List Int)
  | .tup [.int s, .tup cs] => (intsD cs).map fun ns => (s, ns)
  | _ => none
def pairsI : List D → Option (List (Int × List Int))
  | [] => some []
  | x :: r => (pairI x).bind fun p => (pairsI r).map fun ps => p :: ps
def pairB (p : Int × List Int) : D := .tup [.int p.1, .tup (p.2.map .int)]
def sortPD : List D → Option D
  | [.lst xs] => (pairsI xs).map fun ps => .lst ((ps.mergeSort pLe).map pairB)
  | _ => none
theorem pairs_rep {K : PySem.W.Frag} {F : Hp} : ∀ {xs : List D} {vs : List V} {ps : List (Int × List Int)}, pairsI xs = some ps → RepL K fa F xs vs → ∃ qs : List PQ, qs.map (·.2.2) = ps ∧ vs = (qs.map fun q => V.ref q.1) ∧ ∀ q ∈ qs, SqT K F q.1 [.int q.2.2.1, .ref q.2.1] ∧ SqT K F q.2.1 (q.2.2.2.map V.int)
  | _, _, ps, h, .nil => by
    cases h
    exact ⟨[], rfl, rfl, fun q hq => by cases hq⟩
  | x :: xs, v :: vs, ps, h, .cons r t => by
    unfold pairsI at h
    cases e1 : pairI x with
    | none => rw [e1] at h; cases h
    | some p =>
      cases e2 : pairsI xs with
      | none => rw [e1, e2] at h; cases h
      | some ps' =>
        rw [e1, e2] at h
        cases h
        obtain ⟨qs, h1, h2, h3⟩ := pairs_rep e2 t
        unfold pairI at e1
        split at e1
        · rename_i s cs
          cases e3 : intsD cs with
          | none => rw [e3] at e1; cases e1
          | some ns =>
            rw [e3] at e1
            cases e1
            cases r with
            | @tup a1 _ _ hq rl =>
              cases rl with
              | cons ra rl =>
                cases rl with
                | cons rb rl =>
                  cases rl
                  cases ra
                  cases rb with
                  | @tup a2 _ _ hq2 rl2 =>
                    obtain rfl := intsD_rep e3 rl2
                    refine ⟨((a1, a2, s, ns) : PQ) :: qs, by rw [List.map_cons, h1], by rw [List.map_cons, h2], fun q hm => ?_⟩
                    rcases List.mem_cons.mp hm with e | e
                    · rw [e]; exact ⟨hq, hq2⟩
                    · exact h3 q e
        · cases e1
theorem repL_map {α : Type} {K : PySem.W.Frag} {F : Hp} {f : α → D} {g : α → V} : ∀ {l : List α}, (∀ x ∈ l, Rep K fa F (f x) (g x)) → RepL K fa F (l.map f) (l.map g)
  | [], _ => .nil
  | x :: r, h => .cons (h x (.head _)) (repL_map fun y hy => h y (.tail _ hy))
theorem ok_sortPQ : CallOk X fa (rSortPQ X.K) sortPD := by
  intro F H s xs as Q h1 h2 r h
  unfold sortPD at h
  split at h
  · rename_i ys
    cases e : pairsI ys with
    | none => rw [e] at h; exact h.elim
    | some ps =>
      rw [e] at h
      cases r with
      | cons r t =>
        cases t
        cases r with
        | lst hq rl =>
          obtain ⟨qs, rfl, rfl, hp⟩ := pairs_rep e rl
          refine ⟨_, qs, rfl, SqL.of (h1 _ _ hq), fun p hm => ⟨same_seqT h1 (hp p hm).1, same_seqT h1 (hp p hm).2⟩, fun l hl => ?_⟩
          have em : (qs.map (·.2.2)).mergeSort pLe = (qs.mergeSort fun p q => pLe p.2.2 q.2.2).map (·.2.2) := (List.map_mergeSort (s := pLe) (f := fun p : PQ => p.2.2) fun a _ b _ => rfl).symm
          have h' : GoodO X fa F H s (some (.lst (((qs.map (·.2.2)).mergeSort pLe).map pairB))) Q := h
          rw [em, List.map_map] at h'
          refine GoodO.new h1 h2 hl (.lst upd_same (repL_map fun q hq => ?_)) h'
          have hm : q ∈ qs := (List.mergeSort_perm qs _).mem_iff.mp hq
          have fl : F l = none := Same.free h1 hl
          have up : Same F (upd F l (.lst ((qs.mergeSort fun p q => pLe p.2.2 q.2.2).map fun p => V.ref p.1))) := fun b o e => by rw [upd_ne (ne_of_none e fl)]; exact e
          exact .tup (same_seqT up (hp q hm).1) (.cons (.int _) (.cons (.tup (same_seqT up (hp q hm).2) (RepL.ints _)) .nil))
  · exact h.elim
end

namespace SumT
open PySem PyProof.Rows
section
variable {prog : Program} {w : World} {A : Around} {E : Value → Shared → Prop} {s : Shared} {l : Addr} {xs : Array (Int × Tok)} {its : List Value} {ns : List Int} {Q : Value → Shared → Prop}
theorem sum_tupG (hh : A.handled = none) (hl : s.heap.IsTuple l (intItems xs))
    (h : ∀ h' tk t', (∀ b o, s.heap.get? b = some o → h'.get? b = some o) → Q (.int (preSum (numAt xs) xs.size) t') { s with heap := h', toks := tk }) : wpAny (model prog w) A (call (.builtin "sum") [.ref l]) Q E s := by
  have hlt : l < s.heap.objs.size := by obtain ⟨_, e, _⟩ := hl; exact Heap.lt_size e
  refine call_sum_walkG (wpAny_pyIter_tuple hl ?_)
  refine ⟨_, [_, l], [_], _, _, _, numAt xs, rfl, Walks.tuple (A := A.in1) hh _ l (Nat.ne_of_lt hlt) (intItems xs), ⟨⟨_, Heap.get?_push_size _ rfl, rfl, rfl⟩, hl.push _⟩, fun c hc => ?_, (fun _ _ => intItems_at), fun h' tk t' hk => ?_⟩
  · show c < (s.heap.push _).objs.size
    rw [Heap.size_push]
    rcases List.mem_cons.mp hc with rfl | hc
    · exact Nat.lt_succ_self _
    · rcases List.mem_cons.mp hc with rfl | hc
      · exact Nat.lt_succ_of_lt hlt
      · cases hc
  · have hold : ∀ b o, s.heap.get? b = some o → h'.get? b = some o := fun b o e => by
      refine hk b o (fun hm => ?_) (Heap.get?_push_of_some _ e)
      rcases List.mem_cons.mp hm with e1 | hm
      · exact absurd (e1 ▸ Heap.lt_size e) (Nat.lt_irrefl _)
      · cases hm
    have := h h' tk t' hold
    simpa [intItems] using this
theorem sum_tup (hh : A.handled = none) (hl : s.heap.IsTuple l its.toArray) (hi : IntsAre its ns)
    (h : ∀ h' tk t', (∀ b o, s.heap.get? b = some o → h'.get? b = some o) → Q (.int ns.sum t') { s with heap := h', toks := tk }) : wpAny (model prog w) A (call (.builtin "sum") [.ref l]) Q E s := by
  obtain ⟨xs, e⟩ := hi.allInts.items
  have hn : numsOf (intItems xs).toList = ns := by rw [← e]; exact hi.numsOf
  rw [nums_intItems] at hn
  rw [e] at hl
  refine sum_tupG hh hl fun h' tk t' hk => ?_
  have := h h' tk t' hk
  rw [preSum_eq, List.take_of_length_le (by simp), hn]
  exact this
end
end SumT
section
variable {X : Cx} {fa : Option FA}
def rSumT (K : PySem.W.Frag) : List V → Hp → VK → Prop := fun vs H Q => ∃ (a : Addr) (ns : List Int), vs = [V.ref a] ∧ SqT K H a (ns.map V.int) ∧ Q (.int ns.sum) H
theorem cr_sumT (hc : X.calm = true) : CallR X (.builtin "sum") (rSumT X.K) := by
  intro pins s σ H vs us Q I r h
  obtain ⟨a, ns, rfl, hs, q⟩ := h
  obtain ⟨its, rv, ht, _⟩ := I.tuple hs
  rw [Vals.ref1 r]
  exact SumT.sum_tup (I.ok.hd hc) ht rv.ints fun h' tk t' hk => ⟨.int _, H, I.kept hk, ⟨_, rfl⟩, q⟩
def sumTD : List D → Option D
  | [.tup xs] => (intsD xs).map fun ns => .int ns.sum
  | _ => none
theorem ok_sumT : CallOk X fa (rSumT X.K) sumTD := by
  intro F H s xs as Q h1 h2 r h
  unfold sumTD at h
  split at h
  · rename_i ys
    cases e : intsD ys with
    | none => rw [e] at h; exact h.elim
    | some ns =>
      rw [e] at h
      cases r with
      | cons r t =>
        cases t
        cases r with
        | tup hq rl =>
          obtain rfl := intsD_rep e rl
          exact ⟨_, ns, rfl, same_seqT h1 hq, GoodO.here h1 h2 (.int _) h⟩
  · exact h.elim
end
end DL

set_option Elab.async false
set_option linter.all false
set_option maxRecDepth 100000
set_option maxHeartbeats 1000000
/-! What HX tells, in the words of the data layer. -/
namespace HX1
open PySem PySem.Spec PyProof.Rows L2 HX
theorem entI_eq : HX.entI = DL.entI := rfl
theorem entR_eq : HX.entR = DL.entR := rfl
theorem entB_ok {K : Fr} {w : World} {a : Addr} {tab : List (Str × Int)} (h : entB K a tab = true) (D : ∃ es n, KDict K w a es n) : ∃ es n, KDict K w a es n ∧ es.toList.map DL.entI = tab.map some := entI_eq ▸ HX.entB_ok h D
theorem entRB_ok {K : Fr} {w : World} {a : Addr} {tab : List (Str × Addr)} (h : entRB K a tab = true) (D : ∃ es n, KDict K w a es n) : ∃ es n, KDict K w a es n ∧ es.toList.map DL.entR = tab.map some := entR_eq ▸ HX.entRB_ok h D
theorem tupC_of {K : Fr} {h : Heap} {mg : Str → Option Value} {x : Str} {dvs : List He.Dv} {ds : List DL.D} (X : K.In h) (G : h.Ns mainGlobals mg) (e : PySem.W.nsIn K mainGlobals x = some (some (.ref (He.ga K x)))) (t : He.tupB K x dvs = true) (hr : ∀ fa F, DL.RepL K fa F ds (dvs.map (He.Dv.v K))) : DL.TupC K mg x ds :=
  ⟨He.ga K x, _, PySem.W.mg_of X G e, fun F => He.tupB_ok t F, hr⟩
end HX1

set_option Elab.async false
set_option linter.all false
set_option maxRecDepth 100000
set_option maxHeartbeats 4000000
namespace Q
open PySem PySem.Spec PyProof.Rows L2 DL
abbrev pmApp : List D → List D → List D := fun us ws => us ++ ws
noncomputable section
structure Txt (K : PySem.W.Frag) (w : World) (mg : Str → Option Value) : Prop where
  all_ : mg "all" = none
  dict_ : mg "dict" = none
  enumerate_ : mg "enumerate" = none
  int_ : mg "int" = none
  isinstance_ : mg "isinstance" = none
  len_ : mg "len" = none
  list_ : mg "list" = none
  max_ : mg "max" = none
  range_ : mg "range" = none
  repr_ : mg "repr" = none
  sorted_ : mg "sorted" = none
  sum_ : mg "sum" = none
  tuple_ : mg "tuple" = none
abbrev n_law_draw : List Str := ["_law_feed_here", "_law_upto", "_law_cell", "_law_digit", "_law_late"]
theorem sc_law_draw : FnScope n_law_draw ["_law_feed_here", "_law_upto"] (defScope s_law_draw) := ⟨rfl, rfl, rfl, by decide +kernel, rfl, by decide +kernel, by decide +kernel⟩
theorem nd_law_draw : List.Nodup n_law_draw := sc_law_draw.nd
def h_law_draw : DS → Option (Option Int × DS) :=
  (hSeq (hStore (dOp addD (dOp ixD (dVar 0) (dC (.int 3))) (dC (.int 1))) 3)
    (hSeq (hIf (cAnd (cCmp eqD (dOp ixD (dVar 0) (dC (.int 2))) (dC (.int 0))) (cCmp ltD (dOp ixD (dVar 0) (dC (.int 1))) (dFn lenD (lCons (dOp ixD (dVar 0) (dC (.int 0))) lNil)))) (hSeq (hSet 1 (dOp ixD (dOp ixD (dVar 0) (dC (.int 0))) (dOp ixD (dVar 0) (dC (.int 1)))))
    (hSeq (hStore (dOp addD (dOp ixD (dVar 0) (dC (.int 1))) (dC (.int 1))) 1)
    (hIf (cCmp geD (dVar 2) (dOp powD (dC (.int 10)) (dC (.int 18)))) (hStore (dVar 2) 2) (hStore (dOp modD (dFn intF (lCons (dOp addD (dOp addD (dOp mulD (dOp ixD (dVar 0) (dC (.int 4))) (dC (.int 30203))) (dOp mulD (dOp modD (dFn intF (lCons (dVar 2) lNil)) (dC (.int 2147483029))) (dC (.int 611)))) (dC (.int 53))) lNil)) (dC (.int 2147483477))) 4)))) hNext)
    (hSeq (hIf (cCmp gtD (dOp ixD (dVar 0) (dC (.int 2))) (dC (.int 0))) (hSeq (hSet 2 (dOp modD (dFn intF (lCons (dOp ixD (dVar 0) (dC (.int 2))) lNil)) (dVar 1)))
    (hSeq (hStore (dOp fdivD (dOp ixD (dVar 0) (dC (.int 2))) (dVar 1)) 2)
    (hRet (dVar 3)))) hNext)
    (hSeq (hSet 3 (dOp ixD (dVar 0) (dC (.int 4))))
    (hSeq (hSet 3 (dOp addD (dOp addD (dOp addD (dOp mulD (dVar 4) (dVar 4)) (dOp mulD (dVar 4) (dC (.int 20011)))) (dOp mulD (dOp ixD (dVar 0) (dC (.int 3))) (dC (.int 1299721)))) (dC (.int 40009))))
    (hSeq (hStore (dOp modD (dFn intF (lCons (dVar 4) lNil)) (dC (.int 2147483477))) 4)
    (hRet (dOp modD (dFn intF (lCons (dOp addD (dOp fdivD (dOp ixD (dVar 0) (dC (.int 4))) (dC (.int 97))) (dOp mulD (dOp modD (dFn intF (lCons (dOp ixD (dVar 0) (dC (.int 4))) lNil)) (dC (.int 6007))) (dC (.int 71)))) lNil)) (dVar 1)))))))))
theorem draw_runs : ∀ (i : Int) (s s' : FS) (k : Int), s.Ok → drawM i s = .ok k s' → s'.Ok ∧ s'.cells = s.cells ∧ ∃ ρ', h_law_draw ⟨feedL s, some i :: List.replicate 3 none⟩ = some (some k, ⟨feedL s', ρ'⟩) := hDraw_runs
def g_law_draw : List D → M D := feedFn drawM
theorem cal_law_draw {P : Program} {w : World} {K : PySem.W.Frag} {mg : Str → Option Value} {base : Heap} (T : Txt K w mg) (D0 : Dff K mg "_law_draw" ["_law_feed_here", "_law_upto"] s_law_draw) : Cal P w K mg base 1 "_law_draw" ["_law_feed_here", "_law_upto"] g_law_draw :=
  cal_of D0 fun f fd F => fn_feed (k := 0) F sc_law_draw rfl 3 rfl draw_runs fun cdv A outer s H E hr => by
    have hu65 : (A.deeper (envOfC "_law_draw" (defScope s_law_draw) s.heap.objs.size f cdv)).units + 65 < cLine := by
      have := hr.un
      omega
    have hu64 : (A.deeper (envOfC "_law_draw" (defScope s_law_draw) s.heap.objs.size f cdv)).units + 64 < cLine := by omega
    have hu1 : (A.deeper (envOfC "_law_draw" (defScope s_law_draw) s.heap.objs.size f cdv)).units + 1 < cLine := by omega
    exact (sis_cons (si_store (ed_op opr_add ok_add (ed_ix hu1 (ed_var 0) ed_int) ed_int) (pv 0))
    (sis_cons (si_if (TWD.td (twd_and (td_cmp (opr_eq hu64) ok_eq (ed_ix hu1 (ed_var 0) ed_int) ed_int) (twd_and1 (td_cmp op_lt ok_lt (ed_ix hu1 (ed_var 0) ed_int) (ed_callB crl_len ok_len T.len_ (ld_cons (ed_ix hu1 (ed_var 0) ed_int) ld_nil)))))) (sis_cons (si_set (i := 1) nd_law_draw (ed_ix hu1 (ed_ix hu1 (ed_var 0) ed_int) (ed_ix hu1 (ed_var 0) ed_int)))
    (sis_cons (si_store (ed_op opr_add ok_add (ed_ix hu1 (ed_var 0) ed_int) ed_int) (pv 0))
    (sis_one (si_if (td_cmp op_ge ok_ge (ed_var 2) (ed_op op_pow ok_pow ed_int ed_int)) (sis_one (si_store (ed_var 2) (pv 0))) (sis_one (si_store (ed_op op_mod ok_mod (ed_callTy call_int1 ok_int T.int_ (ld_cons (ed_op opr_add ok_add (ed_op opr_add ok_add (ed_op opr_mul ok_mul (ed_ix hu1 (ed_var 0) ed_int) ed_int) (ed_op opr_mul ok_mul (ed_op op_mod ok_mod (ed_callTy call_int1 ok_int T.int_ (ld_cons (ed_var 2) ld_nil)) ed_int) ed_int)) ed_int) ld_nil)) ed_int) (pv 0))))))) sis_nil)
    (sis_cons (si_if (td_cmp op_gt ok_gt (ed_ix hu1 (ed_var 0) ed_int) ed_int) (sis_cons (si_set (i := 2) nd_law_draw (ed_op op_mod ok_mod (ed_callTy call_int1 ok_int T.int_ (ld_cons (ed_ix hu1 (ed_var 0) ed_int) ld_nil)) (ed_var 1)))
    (sis_cons (si_store (ed_op op_fdiv ok_fdiv (ed_ix hu1 (ed_var 0) ed_int) (ed_var 1)) (pv 0))
    (sis_one (si_ret (ed_var 3))))) sis_nil)
    (sis_cons (si_set (i := 3) nd_law_draw (ed_ix hu1 (ed_var 0) ed_int))
    (sis_cons (si_set (i := 3) nd_law_draw (ed_op opr_add ok_add (ed_op opr_add ok_add (ed_op opr_add ok_add (ed_op opr_mul ok_mul (ed_var 4) (ed_var 4)) (ed_op opr_mul ok_mul (ed_var 4) ed_int)) (ed_op opr_mul ok_mul (ed_ix hu1 (ed_var 0) ed_int) ed_int)) ed_int))
    (sis_cons (si_store (ed_op op_mod ok_mod (ed_callTy call_int1 ok_int T.int_ (ld_cons (ed_var 4) ld_nil)) ed_int) (pv 0))
    (sis_one (si_ret (ed_op op_mod ok_mod (ed_callTy call_int1 ok_int T.int_ (ld_cons (ed_op opr_add ok_add (ed_op op_fdiv ok_fdiv (ed_ix hu1 (ed_var 0) ed_int) ed_int) (ed_op opr_mul ok_mul (ed_op op_mod ok_mod (ed_callTy call_int1 ok_int T.int_ (ld_cons (ed_ix hu1 (ed_var 0) ed_int) ld_nil)) ed_int) ed_int)) ld_nil)) (ed_var 1))))))))))
abbrev n_law_cases : List Str := ["_law_many", "_law_bound", "_law_rows_here", "_law_k", "_law_late", "_law_row", "_law_code"]
theorem sc_law_cases : FnScope n_law_cases ["_law_many", "_law_bound"] (defScope s_law_cases) := ⟨rfl, rfl, rfl, by decide +kernel, rfl, by decide +kernel, by decide +kernel⟩
theorem nd_law_cases : List.Nodup n_law_cases := sc_law_cases.nd
def b_law_cases : Sts → M (Fl × Sts) :=
  (gSeq (gSet 2 (vMask (dFn mkLst (lCons (dFn mkTup lNil) lNil))))
    (gSeq (gFor (iFn rng1 (lCons (dVar 0) lNil)) (bName 3) (gSeq (gSet 4 (vMask (dFn mkLst lNil)))
    (gSeq (gFor (iAny (dVar 2)) (bName 5) (gSet 4 (vMask (dOp addD (dVar 4) (dNew (dLc (iFn rng2 (lCons (dC (.int 1)) (lCons (dOp addD (dFn maxD (lCons (dOp addD (dFn mkLst (lCons (dVar 1) lNil)) (dFn listA (lCons (dVar 5) lNil))) lNil)) (dC (.int 2))) lNil))) (bName 6) cYes (dOp addD (dVar 5) (dFn mkTup (lCons (dVar 6) lNil)))))))))
    (gSet 2 (vMask (dVar 4))))))
    (gRet (dVar 2))))
def g_law_cases : List D → M D := runD 7 2 b_law_cases
theorem fo_law_cases {P : Program} {w : World} {K : PySem.W.Frag} {mg : Str → Option Value} {base : Heap} (T : Txt K w mg)  (f : Addr) (fd : FuncData) (F : Fun K "_law_cases" "_law_cases" s_law_cases f fd) : FnOk P w K mg base (L2.CX P w) 1 f fd ["_law_many", "_law_bound"] (DSp K mg g_law_cases) :=
  fn_d (k := 0) F sc_law_cases (by decide) fun cdv A outer s H E fa hr => by
    have hu65 : (A.deeper (envOfC "_law_cases" (defScope s_law_cases) s.heap.objs.size f cdv)).units + 65 < cLine := by
      have := hr.un
      omega
    have hu64 : (A.deeper (envOfC "_law_cases" (defScope s_law_cases) s.heap.objs.size f cdv)).units + 64 < cLine := by omega
    have hu1 : (A.deeper (envOfC "_law_cases" (defScope s_law_cases) s.heap.objs.size f cdv)).units + 1 < cLine := by omega
    exact (ssj_cons (sj_set (i := 2) nd_law_cases (vj_mask (ed_lst (ld_cons (ed_tup ld_nil) ld_nil))))
    (ssj_cons (sj_for (passes_of rfl) rfl (ij_range1 T.range_ (ld_cons (ed_var 0) ld_nil)) (tj_name (i := 3) nd_law_cases) (ssj_cons (sj_set (i := 4) nd_law_cases (vj_mask (ed_lst ld_nil)))
    (ssj_cons (sj_for (passes_of rfl) rfl (ij_any (ed_var 2)) (tj_name (i := 5) nd_law_cases) (ssj_one (sj_set (i := 4) nd_law_cases (vj_mask (ed_op opr_add ok_add (ed_var 4) (ND.ed (nd_lc rfl nd_law_cases (ij_range2 T.range_ (ld_cons ed_int (ld_cons (ed_op opr_add ok_add (ed_callB (crl_max rfl) ok_max T.max_ (ld_cons (ed_op opr_add ok_add (ed_lst (ld_cons (ed_var 1) ld_nil)) (ed_callTy (call_listA rfl) ok_listA T.list_ (ld_cons (ed_var 5) ld_nil))) ld_nil)) ed_int) ld_nil))) (blkOk_by (own := [("_law_code", 6)]) (N := n_law_cases) (sc := defScope s_law_cases) (by decide +kernel)) (by decide) (by decide) (fun _ _ _ _ _ => (tj_name (i := 6) nd_law_cases)) (fun _ _ _ _ _ => ptd_nil) (fun _ _ _ _ _ => (ed_op opr_add ok_add (ed_var 5) (ed_tup (ld_cons (ed_var 6) ld_nil)))))))))))
    (ssj_one (sj_set (i := 2) nd_law_cases (vj_mask (ed_var 4)))))))
    (ssj_one (sj_ret (ed_var 2)))))
theorem cal_law_cases {P : Program} {w : World} {K : PySem.W.Frag} {mg : Str → Option Value} {base : Heap} (T : Txt K w mg) (D0 : Dff K mg "_law_cases" ["_law_many", "_law_bound"] s_law_cases)  : Cal P w K mg base 1 "_law_cases" ["_law_many", "_law_bound"] g_law_cases := cal_of D0 (fo_law_cases T)
abbrev n_law_of : List Str := ["_law_feed_here", "_law_items"]
theorem sc_law_of : FnScope n_law_of ["_law_feed_here", "_law_items"] (defScope s_law_of) := ⟨rfl, rfl, rfl, by decide +kernel, rfl, by decide +kernel, by decide +kernel⟩
theorem nd_law_of : List.Nodup n_law_of := sc_law_of.nd
def b_law_of : Sts → M (Fl × Sts) :=
  (gRet (dOp ixD (dVar 1) (dCall g_law_draw (lCons (dVar 0) (lCons (dFn lenD (lCons (dVar 1) lNil)) lNil)))))
def g_law_of : List D → M D := runD 2 2 b_law_of
theorem fo_law_of {P : Program} {w : World} {K : PySem.W.Frag} {mg : Str → Option Value} {base : Heap} (T : Txt K w mg) (C_law_draw : Cal P w K mg base 1 "_law_draw" ["_law_feed_here", "_law_upto"] g_law_draw) (f : Addr) (fd : FuncData) (F : Fun K "_law_of" "_law_of" s_law_of f fd) : FnOk P w K mg base (L2.CX P w) 2 f fd ["_law_feed_here", "_law_items"] (DSp K mg g_law_of) :=
  fn_d (k := 1) F sc_law_of (by decide) fun cdv A outer s H E fa hr => by
    have hu65 : (A.deeper (envOfC "_law_of" (defScope s_law_of) s.heap.objs.size f cdv)).units + 65 < cLine := by
      have := hr.un
      omega
    have hu64 : (A.deeper (envOfC "_law_of" (defScope s_law_of) s.heap.objs.size f cdv)).units + 64 < cLine := by omega
    have hu1 : (A.deeper (envOfC "_law_of" (defScope s_law_of) s.heap.objs.size f cdv)).units + 1 < cLine := by omega
    exact (ssj_one (sj_ret (ed_ix hu1 (ed_var 1) (ed_cal C_law_draw (hr.mono (by decide)) pass_def (ld_cons (ed_var 0) (ld_cons (ed_callB crl_len ok_len T.len_ (ld_cons (ed_var 1) ld_nil)) ld_nil))))))
theorem cal_law_of {P : Program} {w : World} {K : PySem.W.Frag} {mg : Str → Option Value} {base : Heap} (T : Txt K w mg) (D0 : Dff K mg "_law_of" ["_law_feed_here", "_law_items"] s_law_of) (C_law_draw : Cal P w K mg base 1 "_law_draw" ["_law_feed_here", "_law_upto"] g_law_draw) : Cal P w K mg base 2 "_law_of" ["_law_feed_here", "_law_items"] g_law_of := cal_of D0 (fo_law_of T C_law_draw)
abbrev n_law_rows : List Str := ["_law_many", "_law_top", "_law_rows_here", "_law_k", "_law_late", "_law_row", "_law_size", "_law_total"]
theorem sc_law_rows : FnScope n_law_rows ["_law_many", "_law_top"] (defScope s_law_rows) := ⟨rfl, rfl, rfl, by decide +kernel, rfl, by decide +kernel, by decide +kernel⟩
theorem nd_law_rows : List.Nodup n_law_rows := sc_law_rows.nd
def b_law_rows : Sts → M (Fl × Sts) :=
  (gSeq (gSet 2 (vMask (dFn mkLst (lCons (dFn mkTup lNil) lNil))))
    (gSeq (gFor (iFn rng1 (lCons (dVar 0) lNil)) (bName 3) (gSeq (gSet 4 (vMask (dFn mkLst lNil)))
    (gSeq (gFor (iAny (dVar 2)) (bName 5) (gSet 4 (vMask (dOp addD (dVar 4) (dNew (dLc (iFn rng2 (lCons (dC (.int 1)) (lCons (dOp addD (dVar 1) (dC (.int 1))) lNil))) (bName 6) cYes (dOp addD (dVar 5) (dFn mkTup (lCons (dVar 6) lNil)))))))))
    (gSet 2 (vMask (dVar 4))))))
    (gRet (dNew (dLc (iAny (dFn sortPD (lCons (dNew (dLc (iAny (dVar 2)) (bName 5) cYes (dFn mkTup (lCons (dFn sumTD (lCons (dVar 5) lNil)) (lCons (dVar 5) lNil))))) lNil))) (bTup (bCons (bName 7) (bCons (bName 5) bNil))) cYes (dVar 5))))))
def g_law_rows : List D → M D := runD 8 2 b_law_rows
theorem fo_law_rows {P : Program} {w : World} {K : PySem.W.Frag} {mg : Str → Option Value} {base : Heap} (T : Txt K w mg)  (f : Addr) (fd : FuncData) (F : Fun K "_law_rows" "_law_rows" s_law_rows f fd) : FnOk P w K mg base (L2.CX P w) 1 f fd ["_law_many", "_law_top"] (DSp K mg g_law_rows) :=
  fn_d (k := 0) F sc_law_rows (by decide) fun cdv A outer s H E fa hr => by
    have hu65 : (A.deeper (envOfC "_law_rows" (defScope s_law_rows) s.heap.objs.size f cdv)).units + 65 < cLine := by
      have := hr.un
      omega
    have hu64 : (A.deeper (envOfC "_law_rows" (defScope s_law_rows) s.heap.objs.size f cdv)).units + 64 < cLine := by omega
    have hu1 : (A.deeper (envOfC "_law_rows" (defScope s_law_rows) s.heap.objs.size f cdv)).units + 1 < cLine := by omega
    exact (ssj_cons (sj_set (i := 2) nd_law_rows (vj_mask (ed_lst (ld_cons (ed_tup ld_nil) ld_nil))))
    (ssj_cons (sj_for (passes_of rfl) rfl (ij_range1 T.range_ (ld_cons (ed_var 0) ld_nil)) (tj_name (i := 3) nd_law_rows) (ssj_cons (sj_set (i := 4) nd_law_rows (vj_mask (ed_lst ld_nil)))
    (ssj_cons (sj_for (passes_of rfl) rfl (ij_any (ed_var 2)) (tj_name (i := 5) nd_law_rows) (ssj_one (sj_set (i := 4) nd_law_rows (vj_mask (ed_op opr_add ok_add (ed_var 4) (ND.ed (nd_lc rfl nd_law_rows (ij_range2 T.range_ (ld_cons ed_int (ld_cons (ed_op opr_add ok_add (ed_var 1) ed_int) ld_nil))) (blkOk_by (own := [("_law_size", 6)]) (N := n_law_rows) (sc := defScope s_law_rows) (by decide +kernel)) (by decide) (by decide) (fun _ _ _ _ _ => (tj_name (i := 6) nd_law_rows)) (fun _ _ _ _ _ => ptd_nil) (fun _ _ _ _ _ => (ed_op opr_add ok_add (ed_var 5) (ed_tup (ld_cons (ed_var 6) ld_nil)))))))))))
    (ssj_one (sj_set (i := 2) nd_law_rows (vj_mask (ed_var 4)))))))
    (ssj_one (sj_ret (ND.ed (nd_lc rfl nd_law_rows (ij_any (ed_callB (cr_sortPQ hu64) ok_sortPQ T.sorted_ (ld_cons (ND.ed (nd_lc rfl nd_law_rows (ij_any (ed_var 2)) (blkOk_by (own := [("_law_row", 5)]) (N := n_law_rows) (sc := defScope s_law_rows) (by decide +kernel)) (by decide) (by decide) (fun _ _ _ _ _ => (tj_name (i := 5) nd_law_rows)) (fun _ _ _ _ _ => ptd_nil) (fun _ _ _ _ _ => (ed_tup (ld_cons (ed_callB (cr_sumT rfl) ok_sumT T.sum_ (ld_cons (ed_var 5) ld_nil)) (ld_cons (ed_var 5) ld_nil)))))) ld_nil))) (blkOk_by (own := [("_law_total", 7), ("_law_row", 5)]) (N := n_law_rows) (sc := defScope s_law_rows) (by decide +kernel)) (by decide) (by decide) (fun _ _ _ _ _ => (tj_tup rfl (tsj_cons (tj_name (i := 7) nd_law_rows) (tsj_cons (tj_name (i := 5) nd_law_rows) tsj_nil)) (bCons_len (bCons_len bNil_len)))) (fun _ _ _ _ _ => ptd_nil) (fun _ _ _ _ _ => (ed_var 5))))))))
theorem cal_law_rows {P : Program} {w : World} {K : PySem.W.Frag} {mg : Str → Option Value} {base : Heap} (T : Txt K w mg) (D0 : Dff K mg "_law_rows" ["_law_many", "_law_top"] s_law_rows)  : Cal P w K mg base 1 "_law_rows" ["_law_many", "_law_top"] g_law_rows := cal_of D0 (fo_law_rows T)
abbrev n_law_case : List Str := ["_law_row", "_law_bound", "_law_above", "_law_found", "_law_size"]
theorem sc_law_case : FnScope n_law_case ["_law_row", "_law_bound"] (defScope s_law_case) := ⟨rfl, rfl, rfl, by decide +kernel, rfl, by decide +kernel, by decide +kernel⟩
theorem nd_law_case : List.Nodup n_law_case := sc_law_case.nd
def b_law_case : Sts → M (Fl × Sts) :=
  (gSeq (gPar 2 3 (vNew (fun ρ => (lNil ρ).bind fun xs => M.lift (mkN xs))) (vNew (fun ρ => (lNil ρ).bind fun xs => M.lift (mkN xs))))
    (gSeq (gFor (iAny (dVar 0)) (bName 4) (gSeq (gIf (cAnd (cCmp gtD (dVar 4) (dVar 1)) (cCmp ninD (dVar 4) (dVar 2))) (gDrop (vMt 2 moAppend (lvCons (vMask (dVar 4)) lvNil))) gNext)
    (gDrop (vMt 3 moAppend (lvCons (vViewT (dIf (cCmp leD (dVar 4) (dVar 1)) (dVar 4) (dOp addD (dOp addD (dVar 1) (dC (.int 1))) (dMtT "list" indexD (dVar 2) (lCons (dVar 4) lNil))))) lvNil)))))
    (gFrz 2 (gFrz 3 (gRet (dFn tupleD (lCons (dVar 3) lNil)))))))
def g_law_case : List D → M D := runD 5 2 b_law_case
theorem fo_law_case {P : Program} {w : World} {K : PySem.W.Frag} {mg : Str → Option Value} {base : Heap} (T : Txt K w mg)  (f : Addr) (fd : FuncData) (F : Fun K "_law_case" "_law_case" s_law_case f fd) : FnOk P w K mg base (L2.CX P w) 1 f fd ["_law_row", "_law_bound"] (DSp K mg g_law_case) :=
  fn_d (k := 0) F sc_law_case (by decide) fun cdv A outer s H E fa hr => by
    have hu65 : (A.deeper (envOfC "_law_case" (defScope s_law_case) s.heap.objs.size f cdv)).units + 65 < cLine := by
      have := hr.un
      omega
    have hu64 : (A.deeper (envOfC "_law_case" (defScope s_law_case) s.heap.objs.size f cdv)).units + 64 < cLine := by omega
    have hu1 : (A.deeper (envOfC "_law_case" (defScope s_law_case) s.heap.objs.size f cdv)).units + 1 < cLine := by omega
    exact (ssj_cons (sj_par (i := 2) (j := 3) rfl nd_law_case (vj_new (nd_lst ld_nil)) (vj_new (nd_lst ld_nil)))
    (ssj_cons (sj_for (passes_of rfl) rfl (ij_any (ed_var 0)) (tj_name (i := 4) nd_law_case) (ssj_cons (sj_if (TWD.td (twd_and (td_cmp op_gt ok_gt (ed_var 4) (ed_var 1)) (twd_and1 (td_cmp (opr_nin hu65) ok_nin (ed_var 4) (ed_var 2))))) (ssj_one (sj_expr (vj_mt (i := 2) PySem.F.slot_list_append PySem.F.type_list_append mt_append ok_append (lvj_cons (vj_mask (ed_var 4)) lvj_nil) (pv 2)))) ssj_nil)
    (ssj_one (sj_expr (vj_mt (i := 3) PySem.F.slot_list_append PySem.F.type_list_append mt_append ok_append (lvj_cons (vj_viewT (ed_if (td_cmp op_le ok_le (ed_var 4) (ed_var 1)) (ed_var 4) (ed_op opr_add ok_add (ed_op opr_add ok_add (ed_var 1) ed_int) (ed_mt PySem.F.plainAttrs_list PySem.F.slot_list_index PySem.F.type_list_index mt_index ok_index tyV_list ht_index (ed_var 2) (ld_cons (ed_var 4) ld_nil))))) lvj_nil) (pv 3))))))
    (ssj_frz 2 (ssj_frz 3 (ssj_one (sj_ret (ed_callTy call_tuple_of ok_tuple T.tuple_ (ld_cons (ed_var 3) ld_nil))))))))
theorem cal_law_case {P : Program} {w : World} {K : PySem.W.Frag} {mg : Str → Option Value} {base : Heap} (T : Txt K w mg) (D0 : Dff K mg "_law_case" ["_law_row", "_law_bound"] s_law_case)  : Cal P w K mg base 1 "_law_case" ["_law_row", "_law_bound"] g_law_case := cal_of D0 (fo_law_case T)
abbrev n_least_sizes : List Str := ["case", "bound", "above", "ranked", "sizes", "code", "at"]
theorem sc_least_sizes : FnScope n_least_sizes ["case", "bound"] (defScope s_least_sizes) := ⟨rfl, rfl, rfl, by decide +kernel, rfl, by decide +kernel, by decide +kernel⟩
theorem nd_least_sizes : List.Nodup n_least_sizes := sc_least_sizes.nd
def b_least_sizes : Sts → M (Fl × Sts) :=
  (gSeq (gSet 2 (vMask (dSortSet1 (iAny (dVar 0)) (bName 5) (cCmp gtD (dVar 5) (dVar 1)) (dVar 5))))
    (gSeq (gSet 3 (vMask (dSortK 0 (lCons (dVar 2) lNil))))
    (gSeq (gSet 4 (vMask (fun ρ => ((dDc (iFn enmA (lCons (dVar 3) lNil)) (bTup (bCons (bName 6) (bCons (bName 5) bNil))) cYes (dVar 5) (dOp addD (dOp addD (dVar 1) (dC (.int 1))) (dVar 6))) ρ).bind fun xs => M.pure (.dic xs))))
    (gRet (dNew (dLc (iAny (dVar 0)) (bName 5) cYes (dGet2 (dVar 4) (dVar 5) (dVar 5))))))))
def g_least_sizes : List D → M D := runD 7 2 b_least_sizes
def tb_least_sizes (P : Addr) : List (Addr × Str) := [(P, (("least_sizes" : Str) ++ ".<locals>.") ++ "<lambda>")]
theorem fo_least_sizes {P : Program} {w : World} {K : PySem.W.Frag} {mg : Str → Option Value} {base : Heap} (T : Txt K w mg)  {cd Pt : Addr} (TB : LamX.TabB base mg cd Pt) (f : Addr) (fd : FuncData) (F : Fun K "least_sizes" "least_sizes" s_least_sizes f fd) (hcd : fd.code = .ref cd) : FnOk P w K mg base (L2.CX P w) 1 f fd ["case", "bound"] (DSpT K mg (tb_least_sizes Pt) g_least_sizes) :=
  fn_dT (k := 0) F hcd sc_least_sizes (by decide) fun A outer s H E φ hφ hr => by
    have hfa : ∀ ψ, some φ = some ψ → ψ.tabs = tb_least_sizes Pt := fun ψ e => by cases e; exact hφ
    have hu65 : (A.deeper (envOfC "least_sizes" (defScope s_least_sizes) s.heap.objs.size f (.ref cd))).units + 65 < cLine := by
      have := hr.un
      omega
    have hu64 : (A.deeper (envOfC "least_sizes" (defScope s_least_sizes) s.heap.objs.size f (.ref cd))).units + 64 < cLine := by omega
    have hu1 : (A.deeper (envOfC "least_sizes" (defScope s_least_sizes) s.heap.objs.size f (.ref cd))).units + 1 < cLine := by omega
    exact (ssj_cons (sj_set (i := 2) nd_least_sizes (vj_mask (ed_sortSet1 T.sorted_ rfl nd_least_sizes (ij_any (ed_var 0)) (blkOk_by (own := [("code", 5)]) (N := n_least_sizes) (sc := defScope s_least_sizes) (by decide +kernel)) (by decide) (by decide) (fun _ _ _ _ _ => (tj_name (i := 5) nd_least_sizes)) (fun _ _ _ _ _ => (ptd_one (td_cmp op_gt ok_gt (ed_var 5) (ed_var 1)))) (fun _ _ _ _ _ => (ed_var 5)))))
    (ssj_cons (sj_set (i := 3) nd_least_sizes (vj_mask (ed_sortK hfa rfl ⟨hr.units, hr.depth⟩ TB rfl (List.mem_singleton.mpr rfl) (fun p hp _ => by rw [List.mem_singleton.mp hp]; rfl) rfl (by kernel_rfl) (SL.keyS_by (by decide +kernel)) rfl (by kernel_rfl) (fun _ _ _ _ _ _ => rfl) rfl rfl rfl rfl (ld_cons (ed_var 2) ld_nil) rfl T.sorted_ T.list_ (fun _ => rfl) (fun _ => rfl))))
    (ssj_cons (sj_set (i := 4) nd_least_sizes (vj_mask (ed_dc rfl nd_least_sizes (ij_enumA T.enumerate_ (ld_cons (ed_var 3) ld_nil)) (blkOk_by (own := [("at", 6), ("code", 5)]) (N := n_least_sizes) (sc := defScope s_least_sizes) (by decide +kernel)) (by decide) (by decide) (fun _ _ _ _ _ => (tj_tup rfl (tsj_cons (tj_name (i := 6) nd_least_sizes) (tsj_cons (tj_name (i := 5) nd_least_sizes) tsj_nil)) (bCons_len (bCons_len bNil_len)))) (fun _ _ _ _ _ => ptd_nil) (fun _ _ _ _ _ => (ed_var 5)) (fun _ _ _ _ _ => (ed_op opr_add ok_add (ed_op opr_add ok_add (ed_var 1) ed_int) (ed_var 6))))))
    (ssj_one (sj_ret (ND.ed (nd_lc rfl nd_least_sizes (ij_any (ed_var 0)) (blkOk_by (own := [("code", 5)]) (N := n_least_sizes) (sc := defScope s_least_sizes) (by decide +kernel)) (by decide) (by decide) (fun _ _ _ _ _ => (tj_name (i := 5) nd_least_sizes)) (fun _ _ _ _ _ => ptd_nil) (fun _ _ _ _ _ => (ed_get2 hu1 (ed_var 4) (ed_var 5) (ed_var 5))))))))))
abbrev n_law_same : List Str := ["_law_found", "_law_due", "_law_key", "_law_k"]
theorem sc_law_same : FnScope n_law_same ["_law_found", "_law_due"] (defScope s_law_same) := ⟨rfl, rfl, rfl, by decide +kernel, rfl, by decide +kernel, by decide +kernel⟩
theorem nd_law_same : List.Nodup n_law_same := sc_law_same.nd
def b_law_same (rec : List D → M D) : Sts → M (Fl × Sts) :=
  (gSeq (gIf (cTru (dFn isiD (lCons (dVar 1) (lCons (dC (.opq (.ty "dict"))) lNil)))) (gSeq (gIf (cOr (cNot (cTru (dFn isiD (lCons (dVar 0) (lCons (dC (.opq (.ty "dict"))) lNil))))) (cCmp neD (dFn lenD (lCons (dVar 0) lNil)) (dFn lenD (lCons (dVar 1) lNil)))) (gRet (dC (.bl false))) gNext)
    (gRet (dFn allD (lCons (dNew (dLc (keysD 1) (bName 2) cYes (dAnd (dOp inD (dVar 2) (dVar 0)) (dCall rec (lCons (dOp ixD (dVar 0) (dVar 2)) (lCons (dOp ixD (dVar 1) (dVar 2)) lNil)))))) lNil)))) gNext)
    (gSeq (gIf (cTru (dIsi ["list", "tuple"] (dVar 1))) (gSeq (gIf (cOr (cCmp neD (dFn isiD (lCons (dVar 0) (lCons (dC (.opq (.ty "list"))) lNil))) (dFn isiD (lCons (dVar 1) (lCons (dC (.opq (.ty "list"))) lNil)))) (cNot (cTru (dIsi ["list", "tuple"] (dVar 0))))) (gRet (dC (.bl false))) gNext)
    (gRet (dAnd (dOp eqD (dFn lenD (lCons (dVar 0) lNil)) (dFn lenD (lCons (dVar 1) lNil))) (dFn allD (lCons (dNew (dLc (iFn rng1 (lCons (dFn lenD (lCons (dVar 1) lNil)) lNil)) (bName 3) cYes (dCall rec (lCons (dOp ixD (dVar 0) (dVar 3)) (lCons (dOp ixD (dVar 1) (dVar 3)) lNil))))) lNil))))) gNext)
    (gRet (dAnd (dOp eqD (dVar 0) (dVar 1)) (dOp eqD (dFn reprD (lCons (dVar 0) lNil)) (dFn reprD (lCons (dVar 1) lNil)))))))
def g_same : Nat → List D → M D
  | 0 => fun _ => M.bad
  | n + 1 => runD 4 2 (b_law_same (g_same n))
theorem cal_same {P : Program} {w : World} {K : PySem.W.Frag} {mg : Str → Option Value} {base : Heap} (T : Txt K w mg) (D0 : Dff K mg "_law_same" ["_law_found", "_law_due"] s_law_same) : ∀ n : Nat, Cal P w K mg base (n + 1) "_law_same" ["_law_found", "_law_due"] (g_same n)
  | 0 => cal_bad D0 1
  | n + 1 => cal_of D0 fun f fd F => fn_d (k := n + 1) F sc_law_same (by decide) fun cdv A outer s H E fa hr => by
    have C_rec := cal_same (w := w) (P := P) (base := base) T D0 n
    have hu65 : (A.deeper (envOfC "_law_same" (defScope s_law_same) s.heap.objs.size f cdv)).units + 65 < cLine := by
      have := hr.un
      omega
    have hu64 : (A.deeper (envOfC "_law_same" (defScope s_law_same) s.heap.objs.size f cdv)).units + 64 < cLine := by omega
    have hu1 : (A.deeper (envOfC "_law_same" (defScope s_law_same) s.heap.objs.size f cdv)).units + 1 < cLine := by omega
    exact (ssj_cons (sj_if (td_tru (ed_callB call_isi ok_isi T.isinstance_ (ld_cons (ed_var 1) (ld_cons (ed_ty "dict" T.dict_) ld_nil)))) (ssj_cons (sj_if (TWD.td (twd_or (td_not (td_tru (ed_callB call_isi ok_isi T.isinstance_ (ld_cons (ed_var 0) (ld_cons (ed_ty "dict" T.dict_) ld_nil))))) (twd_or1 (td_cmp (opr_ne hu64) ok_ne (ed_callB crl_len ok_len T.len_ (ld_cons (ed_var 0) ld_nil)) (ed_callB crl_len ok_len T.len_ (ld_cons (ed_var 1) ld_nil)))))) (ssj_one (sj_ret ed_bl)) ssj_nil)
    (ssj_one (sj_ret (ed_callB (cr_all rfl) ok_all T.all_ (ld_cons (ND.ed (nd_lcKeys rfl nd_law_same (pv 1) (blkOk_by (own := [("_law_key", 2)]) (N := n_law_same) (sc := defScope s_law_same) (by decide +kernel)) (by decide) (by decide) (fun _ _ _ _ _ => (tj_name (i := 2) nd_law_same)) (fun _ _ _ _ _ => ptd_nil) (fun _ _ _ _ _ => (ed_and (ed_cmp (opr_in hu65) ok_in (ed_var 2) (ed_var 0)) (ed_one (ed_cal C_rec (hr.mono (by omega)) pass_blk (ld_cons (ed_ix hu1 (ed_var 0) (ed_var 2)) (ld_cons (ed_ix hu1 (ed_var 1) (ed_var 2)) ld_nil)))))))) ld_nil))))) ssj_nil)
    (ssj_cons (sj_if (td_tru (ed_isi2 (ed_var 1) T.isinstance_ T.list_ T.tuple_)) (ssj_cons (sj_if (TWD.td (twd_or (td_cmp (opr_ne hu64) ok_ne (ed_callB call_isi ok_isi T.isinstance_ (ld_cons (ed_var 0) (ld_cons (ed_ty "list" T.list_) ld_nil))) (ed_callB call_isi ok_isi T.isinstance_ (ld_cons (ed_var 1) (ld_cons (ed_ty "list" T.list_) ld_nil)))) (twd_or1 (td_not (td_tru (ed_isi2 (ed_var 0) T.isinstance_ T.list_ T.tuple_)))))) (ssj_one (sj_ret ed_bl)) ssj_nil)
    (ssj_one (sj_ret (ed_and (ed_cmp (opr_eq hu64) ok_eq (ed_callB crl_len ok_len T.len_ (ld_cons (ed_var 0) ld_nil)) (ed_callB crl_len ok_len T.len_ (ld_cons (ed_var 1) ld_nil))) (ed_one (ed_callB (cr_all rfl) ok_all T.all_ (ld_cons (ND.ed (nd_lc rfl nd_law_same (ij_range1 T.range_ (ld_cons (ed_callB crl_len ok_len T.len_ (ld_cons (ed_var 1) ld_nil)) ld_nil)) (blkOk_by (own := [("_law_k", 3)]) (N := n_law_same) (sc := defScope s_law_same) (by decide +kernel)) (by decide) (by decide) (fun _ _ _ _ _ => (tj_name (i := 3) nd_law_same)) (fun _ _ _ _ _ => ptd_nil) (fun _ _ _ _ _ => (ed_cal C_rec (hr.mono (by omega)) pass_blk (ld_cons (ed_ix hu1 (ed_var 0) (ed_var 3)) (ld_cons (ed_ix hu1 (ed_var 1) (ed_var 3)) ld_nil)))))) ld_nil))))))) ssj_nil)
    (ssj_one (sj_ret (ed_and (ed_cmp (opr_eq hu64) ok_eq (ed_var 0) (ed_var 1)) (ed_one (ed_cmp (opr_eq hu64) ok_eq (ed_callB cr_repr ok_repr T.repr_ (ld_cons (ed_var 0) ld_nil)) (ed_callB cr_repr ok_repr T.repr_ (ld_cons (ed_var 1) ld_nil)))))))))
def g_law_same : List D → M D := g_same 8
theorem cal_law_same {P : Program} {w : World} {K : PySem.W.Frag} {mg : Str → Option Value} {base : Heap} (T : Txt K w mg) (D0 : Dff K mg "_law_same" ["_law_found", "_law_due"] s_law_same) : Cal P w K mg base 9 "_law_same" ["_law_found", "_law_due"] g_law_same := cal_same T D0 8
abbrev n_case_of : List Str := ["row", "bound", "codes", "found", "size"]
theorem sc_case_of : FnScope n_case_of ["row", "bound"] (defScope s_case_of) := ⟨rfl, rfl, rfl, by decide +kernel, rfl, by decide +kernel, by decide +kernel⟩
theorem nd_case_of : List.Nodup n_case_of := sc_case_of.nd
def b_case_of : Sts → M (Fl × Sts) :=
  (gSeq (gPar 2 3 vNewD (vNew (fun ρ => (lNil ρ).bind fun xs => M.lift (mkN xs))))
    (gSeq (gFor (iAny (dVar 0)) (bName 4) (gSeq (gIf (cAnd (cCmp gtD (dVar 4) (dVar 1)) (cCmp ninD (dVar 4) (dVar 2))) (gStD 2 (vView (dOp addD (dOp addD (dVar 1) (dC (.int 1))) (dFn lenD (lCons (dVar 2) lNil)))) (vMask (dVar 4))) gNext)
    (gDrop (vMt 3 moAppend (lvCons (vView (dGet2 (dVar 2) (dVar 4) (dVar 4))) lvNil)))))
    (gFrz 2 (gFrz 3 (gRet (dFn tupleD (lCons (dVar 3) lNil)))))))
def g_case_of : List D → M D := runD 5 2 b_case_of
theorem fo_case_of {P : Program} {w : World} {K : PySem.W.Frag} {mg : Str → Option Value} {base : Heap} (T : Txt K w mg)  (f : Addr) (fd : FuncData) (F : Fun K "case_of" "case_of" s_case_of f fd) : FnOk P w K mg base (L2.CX P w) 1 f fd ["row", "bound"] (DSp K mg g_case_of) :=
  fn_d (k := 0) F sc_case_of (by decide) fun cdv A outer s H E fa hr => by
    have hu65 : (A.deeper (envOfC "case_of" (defScope s_case_of) s.heap.objs.size f cdv)).units + 65 < cLine := by
      have := hr.un
      omega
    have hu64 : (A.deeper (envOfC "case_of" (defScope s_case_of) s.heap.objs.size f cdv)).units + 64 < cLine := by omega
    have hu1 : (A.deeper (envOfC "case_of" (defScope s_case_of) s.heap.objs.size f cdv)).units + 1 < cLine := by omega
    exact (ssj_cons (sj_par (i := 2) (j := 3) rfl nd_case_of vj_dict (vj_new (nd_lst ld_nil)))
    (ssj_cons (sj_for (passes_of rfl) rfl (ij_any (ed_var 0)) (tj_name (i := 4) nd_case_of) (ssj_cons (sj_if (TWD.td (twd_and (td_cmp op_gt ok_gt (ed_var 4) (ed_var 1)) (twd_and1 (td_cmp (opr_nin hu65) ok_nin (ed_var 4) (ed_var 2))))) (ssj_one (sj_stD (i := 2) hu1 (vj_view (ed_op opr_add ok_add (ed_op opr_add ok_add (ed_var 1) ed_int) (ed_callB crl_len ok_len T.len_ (ld_cons (ed_var 2) ld_nil)))) (vj_mask (ed_var 4)) (pv 2))) ssj_nil)
    (ssj_one (sj_expr (vj_mt (i := 3) PySem.F.slot_list_append PySem.F.type_list_append mt_append ok_append (lvj_cons (vj_view (ed_get2 hu1 (ed_var 2) (ed_var 4) (ed_var 4))) lvj_nil) (pv 3))))))
    (ssj_frz 2 (ssj_frz 3 (ssj_one (sj_ret (ed_callTy call_tuple_of ok_tuple T.tuple_ (ld_cons (ed_var 3) ld_nil))))))))
theorem cal_case_of {P : Program} {w : World} {K : PySem.W.Frag} {mg : Str → Option Value} {base : Heap} (T : Txt K w mg) (D0 : Dff K mg "case_of" ["row", "bound"] s_case_of)  : Cal P w K mg base 1 "case_of" ["row", "bound"] g_case_of := cal_of D0 (fo_case_of T)
abbrev n_law_feed : List Str := ["_law_script", "_law_stir", "_law_cell"]
theorem sc_law_feed : FnScope n_law_feed ["_law_script"] (defScope s_law_feed) := ⟨rfl, rfl, rfl, by decide +kernel, rfl, by decide +kernel, by decide +kernel⟩
theorem nd_law_feed : List.Nodup n_law_feed := sc_law_feed.nd
def b_law_feed : Sts → M (Fl × Sts) :=
  (gSeq (gSet 1 (vMask (dC (.int 10019))))
    (gSeq (gFor (iAny (dSl (dVar 0) oNo (oSome (dC (.int 63))))) (bName 2) (gSet 1 (vMask (dOp modD (dFn intF (lCons (dOp addD (dOp addD (dOp mulD (dVar 1) (dC (.int 40961))) (dOp modD (dFn intF (lCons (dVar 2) lNil)) (dC (.int 2147483029)))) (dC (.int 77))) lNil)) (dC (.int 2147483477))))))
    (gRet (dFn mkLst (lCons (dFn listA (lCons (dSl (dVar 0) oNo (oSome (dC (.int 63)))) lNil)) (lCons (dC (.int 0)) (lCons (dC (.int 0)) (lCons (dC (.int 0)) (lCons (dVar 1) lNil)))))))))
def g_law_feed : List D → M D := runD 3 1 b_law_feed
theorem fo_law_feed {P : Program} {w : World} {K : PySem.W.Frag} {mg : Str → Option Value} {base : Heap} (T : Txt K w mg)  (f : Addr) (fd : FuncData) (F : Fun K "_law_feed" "_law_feed" s_law_feed f fd) : FnOk P w K mg base (L2.CX P w) 1 f fd ["_law_script"] (DSp K mg g_law_feed) :=
  fn_d (k := 0) F sc_law_feed (by decide) fun cdv A outer s H E fa hr => by
    have hu65 : (A.deeper (envOfC "_law_feed" (defScope s_law_feed) s.heap.objs.size f cdv)).units + 65 < cLine := by
      have := hr.un
      omega
    have hu64 : (A.deeper (envOfC "_law_feed" (defScope s_law_feed) s.heap.objs.size f cdv)).units + 64 < cLine := by omega
    have hu1 : (A.deeper (envOfC "_law_feed" (defScope s_law_feed) s.heap.objs.size f cdv)).units + 1 < cLine := by omega
    exact (ssj_cons (sj_set (i := 1) nd_law_feed (vj_mask ed_int))
    (ssj_cons (sj_for (passes_of rfl) rfl (ij_any (ed_slice (ed_var 0) oj_none (oj_some ed_int))) (tj_name (i := 2) nd_law_feed) (ssj_one (sj_set (i := 1) nd_law_feed (vj_mask (ed_op op_mod ok_mod (ed_callTy call_int1 ok_int T.int_ (ld_cons (ed_op opr_add ok_add (ed_op opr_add ok_add (ed_op opr_mul ok_mul (ed_var 1) ed_int) (ed_op op_mod ok_mod (ed_callTy call_int1 ok_int T.int_ (ld_cons (ed_var 2) ld_nil)) ed_int)) ed_int) ld_nil)) ed_int)))))
    (ssj_one (sj_ret (ed_lst (ld_cons (ed_callTy (call_listA rfl) ok_listA T.list_ (ld_cons (ed_slice (ed_var 0) oj_none (oj_some ed_int)) ld_nil)) (ld_cons ed_int (ld_cons ed_int (ld_cons ed_int (ld_cons (ed_var 1) ld_nil))))))))))
theorem cal_law_feed {P : Program} {w : World} {K : PySem.W.Frag} {mg : Str → Option Value} {base : Heap} (T : Txt K w mg) (D0 : Dff K mg "_law_feed" ["_law_script"] s_law_feed)  : Cal P w K mg base 1 "_law_feed" ["_law_script"] g_law_feed := cal_of D0 (fo_law_feed T)
abbrev n_law : List Str := ["_law_script", "_law_feed_here", "_law_turn", "_law_many", "_law_bound", "_law_case_here", "_law_good", "_law_told", "_law_row"]
theorem sc_law : FnScope n_law ["_law_script"] (defScope s_law) := ⟨rfl, rfl, rfl, by decide +kernel, rfl, by decide +kernel, by decide +kernel⟩
theorem nd_law : List.Nodup n_law := sc_law.nd
def b_law : Sts → M (Fl × Sts) :=
  (gSeq (gFor (iFn rng1 (lCons (dC (.int 3)) lNil)) (bName 2) (gSeq (gAsgT (bTup (bCons (bName 3) (bCons (bName 4) bNil))) (vMask (dFn mkTup (lCons (dCall g_law_draw (lCons (dVar 1) (lCons (dC (.int 5)) lNil))) (lCons (dOp addD (dC (.int 1)) (dCall g_law_draw (lCons (dVar 1) (lCons (dC (.int 3)) lNil)))) lNil)))))
    (gSeq (gSet 5 (vMask (dCall g_law_of (lCons (dVar 1) (lCons (dCall g_law_cases (lCons (dVar 3) (lCons (dVar 4) lNil))) lNil)))))
    (gSeq (gSet 6 (vNew (dLc (iAny (dCall g_law_rows (lCons (dVar 3) (lCons (dOp addD (dVar 4) (dVar 3)) lNil)))) (bName 8) (cCmp eqD (dCall g_law_case (lCons (dVar 8) (lCons (dVar 4) lNil))) (dVar 5)) (dVar 8))))
    (gFrz 6 (gSeq (gIf (cNot (cTru (dCall g_law_same (lCons (dFn mkLst (lCons (dCall g_least_sizes (lCons (dVar 5) (lCons (dVar 4) lNil))) (lCons (dCall g_least_sizes (lCons (dVar 5) (lCons (dVar 4) lNil))) lNil))) (lCons (dOp mulLD (dFn mkLst (lCons (dFn listA (lCons (dOp ixD (dVar 6) (dC (.int 0))) lNil)) lNil)) (dC (.int 2))) lNil))))) (gRet (dC (.bl false))) gNext)
    (gIf (cNot (cTru (dCall g_law_same (lCons (dCall g_case_of (lCons (dCall g_least_sizes (lCons (dVar 5) (lCons (dVar 4) lNil))) (lCons (dVar 4) lNil))) (lCons (dVar 5) lNil))))) (gRet (dC (.bl false))) gNext)))))))
    (gSeq (gSet 7 (vMask (dFn mkLst (lCons (dCall g_least_sizes (lCons (dFn mkTup (lCons (dC (.int 2)) (lCons (dC (.int 3)) (lCons (dC (.int 4)) (lCons (dC (.int 5)) (lCons (dC (.int 6)) (lCons (dC (.int 7)) lNil))))))) (lCons (dC (.int 1)) lNil))) (lCons (dCall g_least_sizes (lCons (dFn mkTup (lCons (dC (.int 2)) (lCons (dC (.int 3)) (lCons (dC (.int 3)) (lCons (dC (.int 4)) (lCons (dC (.int 4)) (lCons (dC (.int 4)) lNil))))))) (lCons (dC (.int 1)) lNil))) lNil)))))
    (gSeq (gIf (cNot (cTru (dCall g_law_same (lCons (dVar 7) (lCons (dFn mkLst (lCons (dFn mkLst (lCons (dC (.int 2)) (lCons (dC (.int 3)) (lCons (dC (.int 4)) (lCons (dC (.int 5)) (lCons (dC (.int 6)) (lCons (dC (.int 7)) lNil))))))) (lCons (dFn mkLst (lCons (dC (.int 4)) (lCons (dC (.int 3)) (lCons (dC (.int 3)) (lCons (dC (.int 2)) (lCons (dC (.int 2)) (lCons (dC (.int 2)) lNil))))))) lNil))) lNil))))) (gRet (dC (.bl false))) gNext)
    (gRet (dAnd (dOp eqD (dCall g_least_sizes (lCons (dFn mkTup (lCons (dC (.int 3)) (lCons (dC (.int 4)) (lCons (dC (.int 4)) lNil)))) (lCons (dC (.int 2)) lNil))) (dFn mkLst (lCons (dC (.int 4)) (lCons (dC (.int 3)) (lCons (dC (.int 3)) lNil))))) (dOp eqD (dCall g_least_sizes (lCons (dFn mkTup (lCons (dC (.int 3)) (lCons (dC (.int 4)) lNil))) (lCons (dC (.int 2)) lNil))) (dFn mkLst (lCons (dC (.int 3)) (lCons (dC (.int 4)) lNil)))))))))
theorem ok_law {Pt : Addr} {P : Program} {w : World} {K : PySem.W.Frag} {mg : Str → Option Value} {base : Heap} (T : Txt K w mg) (C_law_draw : Cal P w K mg base 1 "_law_draw" ["_law_feed_here", "_law_upto"] g_law_draw) (C_law_cases : Cal P w K mg base 1 "_law_cases" ["_law_many", "_law_bound"] g_law_cases) (C_law_of : Cal P w K mg base 2 "_law_of" ["_law_feed_here", "_law_items"] g_law_of) (C_law_rows : Cal P w K mg base 1 "_law_rows" ["_law_many", "_law_top"] g_law_rows) (C_law_case : Cal P w K mg base 1 "_law_case" ["_law_row", "_law_bound"] g_law_case) (C_least_sizes : CalT P w K mg base 1 "least_sizes" ["case", "bound"] (tb_least_sizes Pt) g_least_sizes) (C_law_same : Cal P w K mg base 9 "_law_same" ["_law_found", "_law_due"] g_law_same) (C_case_of : Cal P w K mg base 1 "case_of" ["row", "bound"] g_case_of) (C_law_feed : Cal P w K mg base 1 "_law_feed" ["_law_script"] g_law_feed) {f : Addr} {fd : FuncData} (F : Fun K "law" "law" s_law f fd)
    (hff : ∀ ns s, ns.length ≤ 63 → g_law_feed [.scr ns] s = .ok (.lst (feedL (fs1 ns))) s)
    (hg : ∀ ns : List Int, ns.length ≤ 63 → ∃ ρ' s', b_law (.no :: .d .feed :: List.replicate 7 .no) (fs1 ns) = .ok (.rt (.bl true), ρ') s') : FnOk P w K mg base CX0 10 f fd ["_law_script"] (spLawT K (tb_least_sizes Pt)) :=
  fn_lawT (tb_least_sizes Pt) (k := 9) F sc_law rfl rfl (fun cdv A outer s H E hr => sj_set (i := 1) nd_law (vj_mask (ed_cal C_law_feed (hr.mono (by decide)) pass_def (ld_cons (ed_var 0) ld_nil)))) hff (fun cdv A outer s H E φ hφ hr => by
    have hTb : ∀ ψ, some φ = some ψ → ψ.tabs = (tb_least_sizes Pt) := fun ψ e => by cases e; exact hφ
    have hu65 : (A.deeper (envOfC "law" (defScope s_law) s.heap.objs.size f cdv)).units + 65 < cLine := by
      have := hr.un
      omega
    have hu64 : (A.deeper (envOfC "law" (defScope s_law) s.heap.objs.size f cdv)).units + 64 < cLine := by omega
    have hu1 : (A.deeper (envOfC "law" (defScope s_law) s.heap.objs.size f cdv)).units + 1 < cLine := by omega
    exact (ssj_cons (sj_for (passes_of rfl) rfl (ij_range1 T.range_ (ld_cons ed_int ld_nil)) (tj_name (i := 2) nd_law) (ssj_cons (sj_asgT (vj_mask (ed_tup (ld_cons (ed_cal C_law_draw (hr.mono (by decide)) pass_def (ld_cons (ed_var 1) (ld_cons ed_int ld_nil))) (ld_cons (ed_op opr_add ok_add ed_int (ed_cal C_law_draw (hr.mono (by decide)) pass_def (ld_cons (ed_var 1) (ld_cons ed_int ld_nil)))) ld_nil)))) (tj_tup rfl (tsj_cons (tj_name (i := 3) nd_law) (tsj_cons (tj_name (i := 4) nd_law) tsj_nil)) (bCons_len (bCons_len bNil_len))))
    (ssj_cons (sj_set (i := 5) nd_law (vj_mask (ed_cal C_law_of (hr.mono (by decide)) pass_def (ld_cons (ed_var 1) (ld_cons (ed_cal C_law_cases (hr.mono (by decide)) pass_def (ld_cons (ed_var 3) (ld_cons (ed_var 4) ld_nil))) ld_nil)))))
    (ssj_cons (sj_setLc (i := 6) rfl nd_law (ij_any (ed_cal C_law_rows (hr.mono (by decide)) pass_def (ld_cons (ed_var 3) (ld_cons (ed_op opr_add ok_add (ed_var 4) (ed_var 3)) ld_nil)))) (blkOk_by (own := [("_law_row", 8)]) (N := n_law) (sc := defScope s_law) (by decide +kernel)) (by decide) (by decide) (fun _ _ _ _ _ => (tj_name (i := 8) nd_law)) (fun _ _ _ _ _ => (ptd_one (td_cmp (opr_eq hu64) ok_eq (ed_cal C_law_case (hr.mono (by decide)) pass_blk (ld_cons (ed_var 8) (ld_cons (ed_var 4) ld_nil))) (ed_var 5)))) (fun _ _ _ _ _ => (ed_var 8)))
    (ssj_frz 6 (ssj_cons (sj_if (td_not (td_tru (ed_cal C_law_same (hr.mono (by decide)) pass_def (ld_cons (ed_lst (ld_cons (ed_calT C_least_sizes hTb rfl (hr.mono (by decide)) pass_def (ld_cons (ed_var 5) (ld_cons (ed_var 4) ld_nil))) (ld_cons (ed_calT C_least_sizes hTb rfl (hr.mono (by decide)) pass_def (ld_cons (ed_var 5) (ld_cons (ed_var 4) ld_nil))) ld_nil))) (ld_cons (ed_op op_rep ok_mulL (ed_lst (ld_cons (ed_callTy (call_listA rfl) ok_listA T.list_ (ld_cons (ed_ix hu1 (ed_var 6) ed_int) ld_nil)) ld_nil)) ed_int) ld_nil))))) (ssj_one (sj_ret ed_bl)) ssj_nil)
    (ssj_one (sj_if (td_not (td_tru (ed_cal C_law_same (hr.mono (by decide)) pass_def (ld_cons (ed_cal C_case_of (hr.mono (by decide)) pass_def (ld_cons (ed_calT C_least_sizes hTb rfl (hr.mono (by decide)) pass_def (ld_cons (ed_var 5) (ld_cons (ed_var 4) ld_nil))) (ld_cons (ed_var 4) ld_nil))) (ld_cons (ed_var 5) ld_nil))))) (ssj_one (sj_ret ed_bl)) ssj_nil))))))))
    (ssj_cons (sj_set (i := 7) nd_law (vj_mask (ed_lst (ld_cons (ed_calT C_least_sizes hTb rfl (hr.mono (by decide)) pass_def (ld_cons (ed_tup (ld_cons ed_int (ld_cons ed_int (ld_cons ed_int (ld_cons ed_int (ld_cons ed_int (ld_cons ed_int ld_nil))))))) (ld_cons ed_int ld_nil))) (ld_cons (ed_calT C_least_sizes hTb rfl (hr.mono (by decide)) pass_def (ld_cons (ed_tup (ld_cons ed_int (ld_cons ed_int (ld_cons ed_int (ld_cons ed_int (ld_cons ed_int (ld_cons ed_int ld_nil))))))) (ld_cons ed_int ld_nil))) ld_nil)))))
    (ssj_cons (sj_if (td_not (td_tru (ed_cal C_law_same (hr.mono (by decide)) pass_def (ld_cons (ed_var 7) (ld_cons (ed_lst (ld_cons (ed_lst (ld_cons ed_int (ld_cons ed_int (ld_cons ed_int (ld_cons ed_int (ld_cons ed_int (ld_cons ed_int ld_nil))))))) (ld_cons (ed_lst (ld_cons ed_int (ld_cons ed_int (ld_cons ed_int (ld_cons ed_int (ld_cons ed_int (ld_cons ed_int ld_nil))))))) ld_nil))) ld_nil))))) (ssj_one (sj_ret ed_bl)) ssj_nil)
    (ssj_one (sj_ret (ed_and (ed_cmp (opr_eq hu64) ok_eq (ed_calT C_least_sizes hTb rfl (hr.mono (by decide)) pass_def (ld_cons (ed_tup (ld_cons ed_int (ld_cons ed_int (ld_cons ed_int ld_nil)))) (ld_cons ed_int ld_nil))) (ed_lst (ld_cons ed_int (ld_cons ed_int (ld_cons ed_int ld_nil))))) (ed_one (ed_cmp (opr_eq hu64) ok_eq (ed_calT C_least_sizes hTb rfl (hr.mono (by decide)) pass_def (ld_cons (ed_tup (ld_cons ed_int (ld_cons ed_int ld_nil))) (ld_cons ed_int ld_nil))) (ed_lst (ld_cons ed_int (ld_cons ed_int ld_nil)))))))))))) hg
end
end Q

set_option Elab.async false
set_option linter.all false
set_option maxRecDepth 100000
set_option maxHeartbeats 0
namespace Q
open DL L2 PyProof.Rows PySem PySem.Spec
theorem all_fx {l : PySem.W.OpenLaw} {w : World} {K : PySem.W.Frag} {h : Heap} {mg : Str → Option Value} {fa : Addr} (X : K.In h) (G : h.Ns mainGlobals mg) (hfa : mg "law" = some (.ref fa)) (c : ask.says w K) (feed_ok : ∀ (ns : List Int) (s : DL.FS), ns.length ≤ 63 → Q.g_law_feed [.scr ns] s = .ok (.lst (DL.feedL (DL.fs1 ns))) s) (law_ok : ∀ ns : List Int, ns.length ≤ 63 → ∃ ρ' s', Q.b_law (.no :: .d .feed :: List.replicate 7 .no) (DL.fs1 ns) = .ok (.rt (.bl true), ρ') s') {cdx Pt : Addr} (hx : HX.codeP K (He.ga K "least_sizes") = some (cdx, Pt))
    : ∃ fd : FuncData, (∀ (s : Shared) (v : Value), BindsTo s fd ⟨[v], []⟩ [("_law_script", v)]) ∧ ∀ base : Heap, K.In base → base.Ns mainGlobals mg → LamX.TabB base mg cdx Pt → FnOk l.prog w K mg base CX0 10 fa fd ["_law_script"] (spLawT K (tb_least_sizes Pt)) := by
  have a_law_draw : PySem.W.nsIn K mainGlobals "_law_draw" = some (some (.ref (He.ga K "_law_draw"))) := He.eqO_ok (c.fact 0 0 rfl rfl)
  obtain ⟨oc_law_draw, od_law_draw, sl_law_draw, kV_law_draw, dc_law_draw, pm_law_draw, an_law_draw, cd_law_draw, ct_law_draw, l0_law_draw, c0_law_draw⟩ := c.def_ 0 rfl
  have l_law_draw : K.lookup (He.ga K "_law_draw") = some ⟨oc_law_draw, od_law_draw, .func (PySem.W.fnOf "_law_draw" "_law_draw" (defArgs s_law_draw) (defBody s_law_draw) (defScope s_law_draw) .none kV_law_draw dc_law_draw pm_law_draw an_law_draw cd_law_draw ct_law_draw), sl_law_draw⟩ := l0_law_draw
  have c_law_draw : PySem.W.codeIn K cd_law_draw "_law_draw" = true := c0_law_draw
  have k_law_draw : PySem.W.keepIn K (.ref (He.ga K "_law_draw")) = true := (c.fact 0 1 rfl rfl)
  have a_law_cases : PySem.W.nsIn K mainGlobals "_law_cases" = some (some (.ref (He.ga K "_law_cases"))) := He.eqO_ok (c.fact 0 2 rfl rfl)
  obtain ⟨oc_law_cases, od_law_cases, sl_law_cases, kV_law_cases, dc_law_cases, pm_law_cases, an_law_cases, cd_law_cases, ct_law_cases, l0_law_cases, c0_law_cases⟩ := c.def_ 1 rfl
  have l_law_cases : K.lookup (He.ga K "_law_cases") = some ⟨oc_law_cases, od_law_cases, .func (PySem.W.fnOf "_law_cases" "_law_cases" (defArgs s_law_cases) (defBody s_law_cases) (defScope s_law_cases) .none kV_law_cases dc_law_cases pm_law_cases an_law_cases cd_law_cases ct_law_cases), sl_law_cases⟩ := l0_law_cases
  have c_law_cases : PySem.W.codeIn K cd_law_cases "_law_cases" = true := c0_law_cases
  have k_law_cases : PySem.W.keepIn K (.ref (He.ga K "_law_cases")) = true := (c.fact 0 3 rfl rfl)
  have a_law_of : PySem.W.nsIn K mainGlobals "_law_of" = some (some (.ref (He.ga K "_law_of"))) := He.eqO_ok (c.fact 0 4 rfl rfl)
  obtain ⟨oc_law_of, od_law_of, sl_law_of, kV_law_of, dc_law_of, pm_law_of, an_law_of, cd_law_of, ct_law_of, l0_law_of, c0_law_of⟩ := c.def_ 2 rfl
  have l_law_of : K.lookup (He.ga K "_law_of") = some ⟨oc_law_of, od_law_of, .func (PySem.W.fnOf "_law_of" "_law_of" (defArgs s_law_of) (defBody s_law_of) (defScope s_law_of) .none kV_law_of dc_law_of pm_law_of an_law_of cd_law_of ct_law_of), sl_law_of⟩ := l0_law_of
  have c_law_of : PySem.W.codeIn K cd_law_of "_law_of" = true := c0_law_of
  have k_law_of : PySem.W.keepIn K (.ref (He.ga K "_law_of")) = true := (c.fact 0 5 rfl rfl)
  have a_law_rows : PySem.W.nsIn K mainGlobals "_law_rows" = some (some (.ref (He.ga K "_law_rows"))) := He.eqO_ok (c.fact 0 6 rfl rfl)
  obtain ⟨oc_law_rows, od_law_rows, sl_law_rows, kV_law_rows, dc_law_rows, pm_law_rows, an_law_rows, cd_law_rows, ct_law_rows, l0_law_rows, c0_law_rows⟩ := c.def_ 3 rfl
  have l_law_rows : K.lookup (He.ga K "_law_rows") = some ⟨oc_law_rows, od_law_rows, .func (PySem.W.fnOf "_law_rows" "_law_rows" (defArgs s_law_rows) (defBody s_law_rows) (defScope s_law_rows) .none kV_law_rows dc_law_rows pm_law_rows an_law_rows cd_law_rows ct_law_rows), sl_law_rows⟩ := l0_law_rows
  have c_law_rows : PySem.W.codeIn K cd_law_rows "_law_rows" = true := c0_law_rows
  have k_law_rows : PySem.W.keepIn K (.ref (He.ga K "_law_rows")) = true := (c.fact 0 7 rfl rfl)
  have a_law_case : PySem.W.nsIn K mainGlobals "_law_case" = some (some (.ref (He.ga K "_law_case"))) := He.eqO_ok (c.fact 0 8 rfl rfl)
  obtain ⟨oc_law_case, od_law_case, sl_law_case, kV_law_case, dc_law_case, pm_law_case, an_law_case, cd_law_case, ct_law_case, l0_law_case, c0_law_case⟩ := c.def_ 4 rfl
  have l_law_case : K.lookup (He.ga K "_law_case") = some ⟨oc_law_case, od_law_case, .func (PySem.W.fnOf "_law_case" "_law_case" (defArgs s_law_case) (defBody s_law_case) (defScope s_law_case) .none kV_law_case dc_law_case pm_law_case an_law_case cd_law_case ct_law_case), sl_law_case⟩ := l0_law_case
  have c_law_case : PySem.W.codeIn K cd_law_case "_law_case" = true := c0_law_case
  have k_law_case : PySem.W.keepIn K (.ref (He.ga K "_law_case")) = true := (c.fact 0 9 rfl rfl)
  have a_least_sizes : PySem.W.nsIn K mainGlobals "least_sizes" = some (some (.ref (He.ga K "least_sizes"))) := He.eqO_ok (c.fact 0 10 rfl rfl)
  obtain ⟨oc_least_sizes, od_least_sizes, sl_least_sizes, kV_least_sizes, dc_least_sizes, pm_least_sizes, an_least_sizes, cd_least_sizes, ct_least_sizes, l0_least_sizes, c0_least_sizes⟩ := c.def_ 5 rfl
  have l_least_sizes : K.lookup (He.ga K "least_sizes") = some ⟨oc_least_sizes, od_least_sizes, .func (PySem.W.fnOf "least_sizes" "least_sizes" (defArgs s_least_sizes) (defBody s_least_sizes) (defScope s_least_sizes) .none kV_least_sizes dc_least_sizes pm_least_sizes an_least_sizes cd_least_sizes ct_least_sizes), sl_least_sizes⟩ := l0_least_sizes
  have hcd_least_sizes : cd_least_sizes = .ref cdx := HX.codeP_eq hx l0_least_sizes
  have c_least_sizes : PySem.W.codeIn K cd_least_sizes "least_sizes" = true := c0_least_sizes
  have k_least_sizes : PySem.W.keepIn K (.ref (He.ga K "least_sizes")) = true := (c.fact 0 11 rfl rfl)
  have a_law_same : PySem.W.nsIn K mainGlobals "_law_same" = some (some (.ref (He.ga K "_law_same"))) := He.eqO_ok (c.fact 0 12 rfl rfl)
  obtain ⟨oc_law_same, od_law_same, sl_law_same, kV_law_same, dc_law_same, pm_law_same, an_law_same, cd_law_same, ct_law_same, l0_law_same, c0_law_same⟩ := c.def_ 6 rfl
  have l_law_same : K.lookup (He.ga K "_law_same") = some ⟨oc_law_same, od_law_same, .func (PySem.W.fnOf "_law_same" "_law_same" (defArgs s_law_same) (defBody s_law_same) (defScope s_law_same) .none kV_law_same dc_law_same pm_law_same an_law_same cd_law_same ct_law_same), sl_law_same⟩ := l0_law_same
  have c_law_same : PySem.W.codeIn K cd_law_same "_law_same" = true := c0_law_same
  have k_law_same : PySem.W.keepIn K (.ref (He.ga K "_law_same")) = true := (c.fact 0 13 rfl rfl)
  have a_case_of : PySem.W.nsIn K mainGlobals "case_of" = some (some (.ref (He.ga K "case_of"))) := He.eqO_ok (c.fact 0 14 rfl rfl)
  obtain ⟨oc_case_of, od_case_of, sl_case_of, kV_case_of, dc_case_of, pm_case_of, an_case_of, cd_case_of, ct_case_of, l0_case_of, c0_case_of⟩ := c.def_ 7 rfl
  have l_case_of : K.lookup (He.ga K "case_of") = some ⟨oc_case_of, od_case_of, .func (PySem.W.fnOf "case_of" "case_of" (defArgs s_case_of) (defBody s_case_of) (defScope s_case_of) .none kV_case_of dc_case_of pm_case_of an_case_of cd_case_of ct_case_of), sl_case_of⟩ := l0_case_of
  have c_case_of : PySem.W.codeIn K cd_case_of "case_of" = true := c0_case_of
  have k_case_of : PySem.W.keepIn K (.ref (He.ga K "case_of")) = true := (c.fact 0 15 rfl rfl)
  have a_law_feed : PySem.W.nsIn K mainGlobals "_law_feed" = some (some (.ref (He.ga K "_law_feed"))) := He.eqO_ok (c.fact 0 16 rfl rfl)
  obtain ⟨oc_law_feed, od_law_feed, sl_law_feed, kV_law_feed, dc_law_feed, pm_law_feed, an_law_feed, cd_law_feed, ct_law_feed, l0_law_feed, c0_law_feed⟩ := c.def_ 8 rfl
  have l_law_feed : K.lookup (He.ga K "_law_feed") = some ⟨oc_law_feed, od_law_feed, .func (PySem.W.fnOf "_law_feed" "_law_feed" (defArgs s_law_feed) (defBody s_law_feed) (defScope s_law_feed) .none kV_law_feed dc_law_feed pm_law_feed an_law_feed cd_law_feed ct_law_feed), sl_law_feed⟩ := l0_law_feed
  have c_law_feed : PySem.W.codeIn K cd_law_feed "_law_feed" = true := c0_law_feed
  have k_law_feed : PySem.W.keepIn K (.ref (He.ga K "_law_feed")) = true := (c.fact 0 17 rfl rfl)
  have a_law : PySem.W.nsIn K mainGlobals "law" = some (some (.ref (He.ga K "law"))) := He.eqO_ok (c.fact 0 18 rfl rfl)
  obtain ⟨oc_law, od_law, sl_law, kV_law, dc_law, pm_law, an_law, cd_law, ct_law, l0_law, c0_law⟩ := c.def_ 9 rfl
  have l_law : K.lookup (He.ga K "law") = some ⟨oc_law, od_law, .func (PySem.W.fnOf "law" "law" (defArgs s_law) (defBody s_law) (defScope s_law) .none kV_law dc_law pm_law an_law cd_law ct_law), sl_law⟩ := l0_law
  have c_law : PySem.W.codeIn K cd_law "law" = true := c0_law
  have k_law : PySem.W.keepIn K (.ref (He.ga K "law")) = true := (c.fact 0 19 rfl rfl)
  have z_all : PySem.W.nsIn K mainGlobals "all" = some none := He.eqO_ok (c.fact 1 0 rfl rfl)
  have z_dict : PySem.W.nsIn K mainGlobals "dict" = some none := He.eqO_ok (c.fact 1 1 rfl rfl)
  have z_enumerate : PySem.W.nsIn K mainGlobals "enumerate" = some none := He.eqO_ok (c.fact 1 2 rfl rfl)
  have z_int : PySem.W.nsIn K mainGlobals "int" = some none := He.eqO_ok (c.fact 1 3 rfl rfl)
  have z_isinstance : PySem.W.nsIn K mainGlobals "isinstance" = some none := He.eqO_ok (c.fact 1 4 rfl rfl)
  have z_len : PySem.W.nsIn K mainGlobals "len" = some none := He.eqO_ok (c.fact 1 5 rfl rfl)
  have z_list : PySem.W.nsIn K mainGlobals "list" = some none := He.eqO_ok (c.fact 1 6 rfl rfl)
  have z_max : PySem.W.nsIn K mainGlobals "max" = some none := He.eqO_ok (c.fact 1 7 rfl rfl)
  have z_range : PySem.W.nsIn K mainGlobals "range" = some none := He.eqO_ok (c.fact 1 8 rfl rfl)
  have z_repr : PySem.W.nsIn K mainGlobals "repr" = some none := He.eqO_ok (c.fact 1 9 rfl rfl)
  have z_sorted : PySem.W.nsIn K mainGlobals "sorted" = some none := He.eqO_ok (c.fact 1 10 rfl rfl)
  have z_sum : PySem.W.nsIn K mainGlobals "sum" = some none := He.eqO_ok (c.fact 1 11 rfl rfl)
  have z_tuple : PySem.W.nsIn K mainGlobals "tuple" = some none := He.eqO_ok (c.fact 1 12 rfl rfl)
  have e := hfa.symm.trans (PySem.W.mg_of X G a_law)
  cases e
  have T : Txt K w mg := by
    refine ⟨?_, ?_, ?_, ?_, ?_, ?_, ?_, ?_, ?_, ?_, ?_, ?_, ?_⟩
    · exact PySem.W.mg_none_of X G z_all
    · exact PySem.W.mg_none_of X G z_dict
    · exact PySem.W.mg_none_of X G z_enumerate
    · exact PySem.W.mg_none_of X G z_int
    · exact PySem.W.mg_none_of X G z_isinstance
    · exact PySem.W.mg_none_of X G z_len
    · exact PySem.W.mg_none_of X G z_list
    · exact PySem.W.mg_none_of X G z_max
    · exact PySem.W.mg_none_of X G z_range
    · exact PySem.W.mg_none_of X G z_repr
    · exact PySem.W.mg_none_of X G z_sorted
    · exact PySem.W.mg_none_of X G z_sum
    · exact PySem.W.mg_none_of X G z_tuple
  refine ⟨PySem.W.fnOf "law" "law" (defArgs s_law) (defBody s_law) (defScope s_law) .none kV_law dc_law pm_law an_law cd_law ct_law, fun s v => .of_eq rfl, fun base _ _ TB => ?_⟩
  have D_law_draw : Dff K mg "_law_draw" ["_law_feed_here", "_law_upto"] s_law_draw := dff_mk X G a_law_draw l_law_draw c_law_draw k_law_draw (fun _ _ _ _ _ _ us hl => match us, hl with | [_, _], _ => rfl)
  have C_law_draw := cal_law_draw (P := l.prog) (w := w) (base := base) T D_law_draw
  have D_law_cases : Dff K mg "_law_cases" ["_law_many", "_law_bound"] s_law_cases := dff_mk X G a_law_cases l_law_cases c_law_cases k_law_cases (fun _ _ _ _ _ _ us hl => match us, hl with | [_, _], _ => rfl)
  have C_law_cases := cal_law_cases (P := l.prog) (w := w) (base := base) T D_law_cases
  have D_law_of : Dff K mg "_law_of" ["_law_feed_here", "_law_items"] s_law_of := dff_mk X G a_law_of l_law_of c_law_of k_law_of (fun _ _ _ _ _ _ us hl => match us, hl with | [_, _], _ => rfl)
  have C_law_of := cal_law_of (P := l.prog) (w := w) (base := base) T D_law_of C_law_draw
  have D_law_rows : Dff K mg "_law_rows" ["_law_many", "_law_top"] s_law_rows := dff_mk X G a_law_rows l_law_rows c_law_rows k_law_rows (fun _ _ _ _ _ _ us hl => match us, hl with | [_, _], _ => rfl)
  have C_law_rows := cal_law_rows (P := l.prog) (w := w) (base := base) T D_law_rows
  have D_law_case : Dff K mg "_law_case" ["_law_row", "_law_bound"] s_law_case := dff_mk X G a_law_case l_law_case c_law_case k_law_case (fun _ _ _ _ _ _ us hl => match us, hl with | [_, _], _ => rfl)
  have C_law_case := cal_law_case (P := l.prog) (w := w) (base := base) T D_law_case
  have C_least_sizes : CalT l.prog w K mg base 1 "least_sizes" ["case", "bound"] (tb_least_sizes Pt) g_least_sizes := calt_mk (fun_mk (st := s_least_sizes) l_least_sizes c_least_sizes k_least_sizes) (PySem.W.mg_of X G a_least_sizes) ((fun_mk (st := s_least_sizes) l_least_sizes c_least_sizes k_least_sizes).binds (fun _ _ _ _ _ _ us hl => match us, hl with | [_, _], _ => rfl)) (fo_least_sizes T TB (He.ga K "least_sizes") _ (fun_mk (st := s_least_sizes) l_least_sizes c_least_sizes k_least_sizes) hcd_least_sizes)
  have D_law_same : Dff K mg "_law_same" ["_law_found", "_law_due"] s_law_same := dff_mk X G a_law_same l_law_same c_law_same k_law_same (fun _ _ _ _ _ _ us hl => match us, hl with | [_, _], _ => rfl)
  have C_law_same := cal_law_same (P := l.prog) (w := w) (base := base) T D_law_same
  have D_case_of : Dff K mg "case_of" ["row", "bound"] s_case_of := dff_mk X G a_case_of l_case_of c_case_of k_case_of (fun _ _ _ _ _ _ us hl => match us, hl with | [_, _], _ => rfl)
  have C_case_of := cal_case_of (P := l.prog) (w := w) (base := base) T D_case_of
  have D_law_feed : Dff K mg "_law_feed" ["_law_script"] s_law_feed := dff_mk X G a_law_feed l_law_feed c_law_feed k_law_feed (fun _ _ _ _ _ _ us hl => match us, hl with | [_], _ => rfl)
  have C_law_feed := cal_law_feed (P := l.prog) (w := w) (base := base) T D_law_feed
  exact ok_law T C_law_draw C_law_cases C_law_of C_law_rows C_law_case C_least_sizes C_law_same C_case_of C_law_feed (fun_mk (st := s_law) l_law c_law k_law) feed_ok law_ok
end Q
open PySem PySem.W PySem.Calls PyProof.Rows
theorem Q.holds_of (feed_ok : ∀ (ns : List Int) (s : DL.FS), ns.length ≤ 63 → Q.g_law_feed [.scr ns] s = .ok (.lst (DL.feedL (DL.fs1 ns))) s) (law_ok : ∀ ns : List Int, ns.length ≤ 63 → ∃ ρ' s', Q.b_law (.no :: .d .feed :: List.replicate 7 .no) (DL.fs1 ns) = .ok (.rt (.bl true), ρ') s') : PySem.Challenge.rw_quietsides_k13_whole_least_sizes.Holds := by
  w_on; o_law
  refine HandSHeadRun.head_any (r := OpenLaw.row PySem.Challenge.rw_quietsides_k13_whole_least_sizes) (q := view (OpenLaw.row PySem.Challenge.rw_quietsides_k13_whole_least_sizes).prog [11]) (H := Q.hk) (ob := Q.ob) (M := 8000) (loose := Q.loose) (d := HandSHeadRun.topDef (OpenLaw.row PySem.Challenge.rw_quietsides_k13_whole_least_sizes).prog 11) (kwd := []) Q.ob_eq
    (by kernel_rfl) (fun s => by kernel_rfl) Q.run (by kernel_rfl) (by kernel_rfl) (by kernel_rfl) (by rfl) (by first | assumption | decide +kernel) (by decide +kernel) ⟨rfl, rfl, rfl, rfl, rfl, by decide +kernel⟩ ?hw ?hc
  case hw => w_witness2
  case hc =>
    refine LamX.walk_ofTsE (l := PySem.Challenge.rw_quietsides_k13_whole_least_sizes) (n := 63) (k := 10) (x := "_law_script") (CX := fun _ => L2.CX0) rfl (by decide) (by kernel_rfl) ⟨rfl, by decide, by decide⟩ ?F (fun _ _ _ _ _ z => z)
    intro w mg fa h Y G hmg0
    obtain ⟨K, KX, c, x⟩ := Y
    have hmg : mg ("law" : PySem.Str) = some (.ref fa) := by
      have e : (HandSHeadRun.topDef (OpenLaw.row PySem.Challenge.rw_quietsides_k13_whole_least_sizes).prog 11).name = ("law" : PySem.Str) := by kernel_rfl
      rw [← e]
      exact hmg0
    obtain ⟨cdx, Pt, hx, h1, h2, h3⟩ := HX.codOk_ok (x (fun K => He.ga K "least_sizes") (List.mem_singleton.mpr rfl))
    obtain ⟨fd, hb, hF⟩ := Q.all_fx (l := PySem.Challenge.rw_quietsides_k13_whole_least_sizes) (w := w) KX G hmg c feed_ok law_ok hx
    refine ⟨K, KX, fd, [(cdx, Pt)], DL.spLawT K (Q.tb_least_sizes Pt), fun p hp => ?_, fun p hp => ?_, fun p hp => ?_, hb, fun H a ns hl _ hT hS => ⟨⟨a, ns, rfl, hS, hl, fun _ => rfl⟩, fun q hq => ?_⟩, fun base b1 b2 b3 => hF base b1 b2 (b3 _ (List.mem_singleton.mpr rfl))⟩
    · rw [List.mem_singleton.mp hp]; exact h2
    · rw [List.mem_singleton.mp hp]; exact h3
    · rw [List.mem_singleton.mp hp]; exact PySem.W.codeHd_of_K KX h1
    · have eq := List.mem_singleton.mp hq
      subst eq
      exact LamX.TabS.nil (hT (cdx, Pt) (List.mem_singleton.mpr rfl))

set_option Elab.async false
set_option linter.all false
set_option maxRecDepth 100000
set_option maxHeartbeats 4000000
local macro_rules | `(tactic| walk_at "rm") => `(tactic| repeat (first
  | with_reducible refine DL.Rm.step ?_
  | with_reducible refine DL.Rm.setDc ?_
  | with_reducible refine DL.Rm.vnewDc ?_
  | (with_reducible refine DL.tupsAnd ?h ?_; (case h => first | rfl | (simp only [DL.tupsB, DL.tupsL]; done) | (simp [DL.tupsB, DL.tupsL]; done)))
  | with_reducible refine DL.Rm.make ?_
  | with_reducible refine DL.Rm.sortSet2 ?_
  | (with_reducible refine DL.Rm.par3 ?h ?_; (case h => simp only [List.length_cons, List.length_nil]; omega))
  | (with_reducible refine DL.Rm.par ?h ?_; (case h => simp only [List.length_cons, List.length_nil]; omega))
  | (with_reducible refine DL.Rm.ifT ?h ?_; (case h => first | decide | decide +kernel | (simp; done)))
  | (with_reducible refine DL.Rm.ifF ?h ?_; (case h => first | decide | decide +kernel | (simp; done)))
  | (with_reducible refine DL.Rm.chainT ?h ?_; (case h => first | decide | decide +kernel | (simp; done)))
  | (with_reducible refine DL.Rm.chainF ?h ?_; (case h => first | decide | decide +kernel | (simp; done)))
  | with_reducible refine DL.Rm.get2 ?_
  | with_reducible refine DL.Rm.get2k ?_
  | (with_reducible refine DL.Rm.rng1 ?h ?_; (case h => omega))
  | with_reducible refine DL.Rm.rng1 ?_ ?_
  | (with_reducible refine DL.Rm.rng2 ?h ?_; (case h => omega))
  | with_reducible refine DL.Rm.rng2 ?_ ?_
  | (with_reducible refine DL.Rm.modp ?h ?_; (case h => omega))
  | with_reducible refine DL.Rm.modp ?_ ?_
  | (with_reducible refine DL.Rm.mulp ?h ?_; (case h => omega))
  | with_reducible refine DL.Rm.mulp ?_ ?_
  | (with_reducible refine DL.Rm.fdivp ?h ?_; (case h => omega))
  | with_reducible refine DL.Rm.fdivp ?_ ?_
  | with_reducible refine DL.Rm.addl ?_ ?_
  | with_reducible refine DL.Rm.addt ?_ ?_
  | with_reducible refine DL.Rm.app ?_ ?_
  | (with_reducible refine DL.Rm.slLhi ?h ?_; (case h => omega))
  | (with_reducible refine DL.Rm.slLlo ?h ?_; (case h => omega))
  | (with_reducible refine DL.Rm.slThi ?h ?_; (case h => omega))
  | (with_reducible refine DL.Rm.slTlo ?h ?_; (case h => omega))
  | (with_reducible refine DL.Rm.slS ?h ?_; (case h => omega))
  | with_reducible refine DL.Rm.slS ?_ ?_
  | (with_reducible refine DL.Rm.adds ?h ?_; (case h => omega))
  | with_reducible refine DL.Rm.adds ?_ ?_
  | (with_reducible refine DL.Rm.lenS ?h ?_; (case h => omega))
  | with_reducible refine DL.Rm.lenS ?_ ?_
  | (with_reducible refine DL.Rm.lift2 ?_; refine ⟨_, rfl, ?_⟩)))

namespace Q
open PySem PySem.Spec PyProof.Rows L2 DL
/-- data that a text may be compared by -/
def plnB : Nat → D → Prop
  | 0, _ => False
  | _ + 1, .non => True
  | _ + 1, .bl _ => True
  | _ + 1, .int i => i.natAbs.log2 < 1920
  | _ + 1, .str x => (reprText x).length ≤ sizeLine
  | n + 1, .tup xs => xs.length ≤ sizeLine ∧ ∀ x, x ∈ xs → plnB n x
  | n + 1, .lst xs => xs.length ≤ sizeLine ∧ ∀ x, x ∈ xs → plnB n x
  | n + 1, .dic kvs => kvs.length ≤ sizeLine ∧ (kvs.map (·.1)).Nodup ∧ ∀ kv, kv ∈ kvs → plnB n kv.2
  | _ + 1, _ => False
theorem keyD_keyV : ∀ k : Key, keyD (keyV k) = some k
  | .inl _ => rfl
  | .inr _ => rfl
theorem look_mem : ∀ {kvs : List (Key × D)} {k : Key} {d : D}, (kvs.map (·.1)).Nodup → (k, d) ∈ kvs → lookD kvs k = some d
  | (k', d') :: kvs, k, d, hn, hm => by
    rw [List.map_cons, List.nodup_cons] at hn
    rcases List.mem_cons.mp hm with e | hm
    · cases e
      simp [lookD]
    · have hne : ¬ k' = k := fun e => hn.1 (by subst e; exact List.mem_map.mpr ⟨_, hm, rfl⟩)
      have := look_mem hn.2 hm
      unfold lookD at this ⊢
      rw [List.find?_cons_of_neg (by simpa using hne)]
      exact this
theorem in_key (kvs : List (Key × D)) (k : Key) : inD (keyV k) (.dic kvs) = some (.bl (lookD kvs k).isSome) := by
  cases k <;> rfl
theorem ix_key (kvs : List (Key × D)) (k : Key) : ixD (.dic kvs) (keyV k) = lookD kvs k := by
  cases k <;> rfl
theorem Rm.keys {i : Nat} {ρ : Env'} {s : FS} {kvs : List (Key × D)} {Q : List D → FS → Prop} (e : ρ[i]?.join = some (.dic kvs)) (q : Q (kvs.map fun kv => keyV kv.1) s) : Rm (keysD i ρ) s Q := by
  refine Rm.eq (a := kvs.map fun kv => keyV kv.1) (s' := s) ?_ q
  unfold keysD
  rw [e]
  rfl
theorem atI_ok {α : Type} {xs : List α} {i : Nat} {x : α} (h : xs[i]? = some x) : atI xs (0 + (i : Int)) = some x := by
  have hl := (List.getElem?_eq_some_iff.mp h).1
  unfold atI ixN
  rw [if_pos (by omega), if_pos (by omega)]
  show xs[(0 + (i : Int)).toNat]? = _
  rw [show (0 + (i : Int)).toNat = i by omega]
  exact h
theorem bls_true {α : Type} : ∀ xs : List α, blsD (xs.map fun _ => D.bl true) = some (xs.map fun _ => true)
  | [] => rfl
  | _ :: xs => by
    show (blsD (xs.map fun _ => D.bl true)).map _ = _
    rw [bls_true xs]
    rfl
theorem all_true {α : Type} (xs : List α) : allD [.lst (xs.map fun _ => D.bl true)] = some (.bl true) := by
  show (blsD _).map _ = _
  rw [bls_true]
  show some (D.bl _) = _
  congr 2
  simp
theorem sizeLine_62 : sizeLine < 2 ^ 62 := by decide
theorem same_ok : ∀ (n : Nat) (d : D) (s : FS), plnB n d → g_same n [d, d] s = .ok (.bl true) s
  | n + 1, d, s, h => by
    refine Rm.det ?_
    show Rm (runD 4 2 (b_law_same (g_same n)) [d, d]) s _
    refine Rm.run rfl ?_
    unfold b_law_same
    show Rm (gSeq _ _ [.d d, .d d, .no, .no]) s _
    cases d with
    | non => walk_at "rm"; exact ⟨by simp, rfl⟩
    | bl b => 
      walk_at "rm"
      exact ⟨by simp, rfl⟩
    | int i => 
      walk_at "rm"
      refine Rm.lift (if_pos h) ?_
      walk_at "rm"
      refine Rm.lift (if_pos h) ?_
      walk_at "rm"
      exact ⟨by simp, rfl⟩
    | str x => 
      walk_at "rm"
      refine Rm.lift (if_pos h) ?_
      walk_at "rm"
      refine Rm.lift (if_pos h) ?_
      walk_at "rm"
      exact ⟨by simp, rfl⟩
    | tup xs =>
      obtain ⟨hl, hx⟩ := h
      have h62 := sizeLine_62
      walk_at "rm"
      refine ⟨by rw [rangeD_len]; omega, Rm.lcMap (fun _ => .bl true) (fun x hm => ⟨_, rfl, ?_⟩) ?_⟩
      · obtain ⟨i, hi, rfl⟩ := rangeD_mem hm
        have hi : i < xs.length := by omega
        refine Rm.det ?_
        walk_at "rm"
        refine Rm.lift (atI_ok (List.getElem?_eq_getElem hi)) ?_
        walk_at "rm"
        refine Rm.lift (atI_ok (List.getElem?_eq_getElem hi)) ?_
        walk_at "rm"
        exact Rm.eq (same_ok n _ s (hx _ (List.getElem_mem hi))) ⟨rfl, rfl⟩
      · walk_at "rm"
        refine Rm.lift (all_true _) ?_
        walk_at "rm"
        exact ⟨rfl, rfl⟩
    | lst xs =>
      obtain ⟨hl, hx⟩ := h
      have h62 := sizeLine_62
      walk_at "rm"
      refine ⟨by rw [rangeD_len]; omega, Rm.lcMap (fun _ => .bl true) (fun x hm => ⟨_, rfl, ?_⟩) ?_⟩
      · obtain ⟨i, hi, rfl⟩ := rangeD_mem hm
        have hi : i < xs.length := by omega
        refine Rm.det ?_
        walk_at "rm"
        refine Rm.lift (atI_ok (List.getElem?_eq_getElem hi)) ?_
        walk_at "rm"
        refine Rm.lift (atI_ok (List.getElem?_eq_getElem hi)) ?_
        walk_at "rm"
        exact Rm.eq (same_ok n _ s (hx _ (List.getElem_mem hi))) ⟨rfl, rfl⟩
      · walk_at "rm"
        refine Rm.lift (all_true _) ?_
        walk_at "rm"
        exact ⟨rfl, rfl⟩
    | dic kvs =>
      obtain ⟨hl, hn, hx⟩ := h
      have h62 := sizeLine_62
      walk_at "rm"
      refine Q.Rm.keys rfl ?_
      refine ⟨by rw [List.length_map]; exact hl, Rm.lcMap (fun _ => .bl true) (fun x hm => ⟨_, rfl, ?_⟩) ?_⟩
      · obtain ⟨⟨k, d⟩, hkv, rfl⟩ := List.mem_map.mp hm
        have lk := look_mem hn hkv
        refine Rm.det ?_
        walk_at "rm"
        refine Rm.lift (in_key kvs k) ?_
        rw [lk]
        walk_at "rm"
        refine Rm.lift ((ix_key kvs k).trans lk) ?_
        walk_at "rm"
        refine Rm.lift ((ix_key kvs k).trans lk) ?_
        walk_at "rm"
        exact Rm.eq (same_ok n d s (hx _ hkv)) ⟨rfl, rfl⟩
      · walk_at "rm"
        refine Rm.lift (all_true _) ?_
        walk_at "rm"
        exact ⟨rfl, rfl⟩
    | _ => exact h.elim
theorem feed_ok (ns : List Int) (s : FS) (hl : ns.length ≤ 63) : g_law_feed [.scr ns] s = .ok (.lst (feedL (fs1 ns))) s := by
  have cut : slD (.scr ns) none (some 63) = some (.lst (ns.map D.int)) := by
    show some (D.lst (((ns.drop (HT.sIx ns.length 0 none)).take (HT.sIx ns.length ns.length (some 63) - HT.sIx ns.length 0 none)).map D.int)) = _
    have h1 : HT.sIx ns.length 0 none = 0 := rfl
    have h2 : HT.sIx ns.length ns.length (some 63) = ns.length := by
      unfold HT.sIx
      simp
      omega
    rw [h1, h2]
    simp
  have cut' : ((ns.drop (HT.sIx ns.length 0 none)).take (HT.sIx ns.length ns.length (some 63) - HT.sIx ns.length 0 none)).map D.int = ns.map D.int := D.lst.inj (Option.some.inj cut)
  refine Rm.det ?_
  unfold g_law_feed
  refine Rm.run rfl ?_
  unfold b_law_feed
  show Rm (gSeq _ _ [.d (.scr ns), .no, .no]) s _
  walk_at "rm"
  rw [cut']
  refine Rm.loop (fun xs ρ s' => ∃ (r : List Int) (st : Int) (e : EV), xs = r.map D.int ∧ ρ = [.d (.scr ns), .d (.int st), e] ∧ s' = s ∧ r.foldl (fun st c => (st * 40961 + c % 2147483029 + 77) % 2147483477) st = stirOf ns) ⟨ns, 10019, _, rfl, rfl, rfl, rfl⟩ ?_ ?_
  · rintro x r ρ s' ⟨r', st, e, h1, rfl, rfl, h2⟩
    cases r' with
    | nil => cases h1
    | cons c r' =>
      cases h1
      refine ⟨_, rfl, ?_⟩
      show Rm _ _ _
      walk_at "rm"
      exact ⟨r', _, _, rfl, rfl, rfl, h2⟩
  · rintro ρ s' ⟨r', st, e, h1, rfl, rfl, h2⟩
    cases r' with
    | cons c r' => cases h1
    | nil =>
      have h2 : st = stirOf ns := h2
      subst h2
      walk_at "rm"
      rw [cut']
      exact ⟨rfl, rfl⟩
theorem flat_ints : ∀ a : List Int, flatL (a.map D.int) = some (a.map V.int)
  | [] => rfl
  | x :: r => by
    show (scalV (.int x)).bind _ = _
    show (flatL (r.map D.int)).map _ = _
    rw [flat_ints r]
    rfl
theorem inV_ints (x : Int) (a : List Int) : inV (.int x) (a.map V.int) = decide (x ∈ a) := by
  unfold inV
  induction a with
  | nil => rfl
  | cons y r ih =>
    rw [List.map_cons, List.any_cons, ih]
    show ((y == x) || _) = _
    by_cases h : y = x
    · subst h; simp
    · have h2 : x ≠ y := fun e => h e.symm
      by_cases h3 : x ∈ r <;> simp [h, h2, h3]
theorem nin_ints (x : Int) (a : List Int) : ninD (.int x) (.lst (a.map D.int)) = some (.bl (!decide (x ∈ a))) := by
  have h : inB (.int x) (.lst (a.map D.int)) = some (inV (.int x) (a.map V.int)) := by
    show (match scalV (.int x), flatL (a.map D.int) with
      | some v, some vs => some (inV v vs)
      | _, _ => _) = _
    rw [flat_ints]
    rfl
  unfold ninD
  rw [h, inV_ints]
  rfl
/-- the place of x in a -/
def ixA (a : List Int) (x : Int) : Nat := a.findIdx fun y => y == x
theorem index_ints {x : Int} {a : List Int} (h : x ∈ a) : indexD (.lst (a.map D.int)) [.int x] = some (.int (ixA a x)) := by
  show (flatL (a.map D.int)).bind _ = _
  rw [flat_ints]
  have e1 : (a.map V.int).any (fun z => eqV z (.int x)) = true := by
    have := inV_ints x a
    unfold inV at this
    rw [this]
    simpa using h
  show (if (a.map V.int).any (fun z => eqV z (.int x)) = true then some (D.int ((a.map V.int).findIdx fun z => eqV z (.int x) : Nat)) else none) = _
  rw [if_pos e1]
  unfold ixA
  congr 3
  rw [List.findIdx_map]
  rfl
theorem of_ok {xs : List D} {s : FS} {Q : D → FS → Prop} (h0 : 0 < xs.length) (h1 : xs.length < 1073741824) (ok : s.Ok) (q : ∀ y s', y ∈ xs → s'.Ok → Q y s') : Rm (g_law_of [.feed, .lst xs]) s Q := by
  unfold g_law_of
  refine Rm.run rfl ?_
  unfold b_law_of
  show Rm (gRet _ [.d .feed, .d (.lst xs)]) s _
  walk_at "rm"
  refine Rm.draw (by omega) (by omega) ok fun k s' ok' k0 k1 => ?_
  walk_at "rm"
  have hk : k.toNat < xs.length := by omega
  refine Rm.lift (a := xs[k.toNat]) ?_ ?_
  · show atI xs k = _
    have := atI_ok (List.getElem?_eq_getElem hk)
    rw [show (0 + (k.toNat : Int)) = k by omega] at this
    exact this
  · walk_at "rm"
    exact q _ _ (List.getElem_mem hk) ok'
theorem ints_of {P : Int → Prop} : ∀ {ys : List D}, (∀ y, y ∈ ys → ∃ z, y = .int z ∧ P z) → ∃ row : List Int, ys = row.map D.int ∧ ∀ z, z ∈ row → P z
  | [], _ => ⟨[], rfl, fun z h => by simp at h⟩
  | y :: ys, h => by
    obtain ⟨z, rfl, hz⟩ := h y List.mem_cons_self
    obtain ⟨row, rfl, hr⟩ := ints_of (ys := ys) fun y hy => h y (List.mem_cons_of_mem _ hy)
    exact ⟨z :: row, rfl, fun x hx => by
      rcases List.mem_cons.mp hx with rfl | hx
      · exact hz
      · exact hr x hx⟩
theorem pln_int (n : Nat) (x : Int) (h : -(2 ^ 64) < x ∧ x < 2 ^ 64) : plnB (n + 1) (.int x) := by
  show x.natAbs.log2 < 1920
  have h1 : x.natAbs < 2 ^ 64 := by omega
  by_cases h0 : x.natAbs = 0
  · rw [h0]; decide
  · exact Nat.lt_trans ((Nat.log2_lt h0).mpr h1) (by decide)
end Q

set_option Elab.async false
set_option linter.all false
set_option maxRecDepth 100000
set_option maxHeartbeats 4000000
namespace Q
open PySem PySem.Spec PyProof.Rows L2 DL
def stepA (b : Int) (a : List Int) (x : Int) : List Int := if b < x ∧ x ∉ a then a ++ [x] else a
def codeA (b : Int) (a : List Int) (x : Int) : Int := if x ≤ b then x else b + 1 + (ixA a x : Nat)
def runA (b : Int) : List Int → List Int → List Int
  | _, [] => []
  | a, x :: r => codeA b (stepA b a x) x :: runA b (stepA b a x) r
theorem step_mem {b x : Int} {a : List Int} (h : b < x) : x ∈ stepA b a x := by
  unfold stepA
  by_cases h2 : x ∈ a
  · rw [if_neg (fun z => z.2 h2)]; exact h2
  · rw [if_pos ⟨h, h2⟩]; simp
theorem step_len {b x : Int} {a : List Int} : (stepA b a x).length ≤ a.length + 1 := by
  unfold stepA
  split <;> simp
theorem case_ok (row : List Int) (b : Int) (s : FS) (hl : row.length < sizeLine) : g_law_case [.tup (row.map D.int), .int b] s = .ok (.tup ((runA b [] row).map D.int)) s := by
  refine Rm.det ?_
  unfold g_law_case
  refine Rm.run rfl ?_
  unfold b_law_case
  show Rm (gSeq _ _ [.d (.tup (row.map D.int)), .d (.int b), .no, .no, .no]) s _
  walk_at "rm"
  refine Rm.loop (fun xs ρ s' => ∃ (r a f : List Int) (e : EV), xs = r.map D.int ∧ ρ = [.d (.tup (row.map D.int)), .d (.int b), .ol (a.map D.int), .ol (f.map D.int), e] ∧ s' = s ∧ f ++ runA b a r = runA b [] row ∧ a.length + r.length ≤ row.length ∧ f.length + r.length ≤ row.length) ⟨row, [], [], _, rfl, rfl, rfl, rfl, by simp, by simp⟩ ?_ ?_
  · rintro x xs ρ s' ⟨r, a, f, e, h1, rfl, rfl, h2, h3, h4⟩
    cases r with
    | nil => cases h1
    | cons c r =>
      cases h1
      refine ⟨_, rfl, ?_⟩
      have h3' : a.length + (r.length + 1) ≤ row.length := h3
      have h4' : f.length + (r.length + 1) ≤ row.length := h4
      have hla : (stepA b a c).length + r.length ≤ row.length := by
        have := @step_len b c a
        omega
      refine Rm.seq1 (ρ' := [.d (.tup (row.map D.int)), .d (.int b), .ol ((stepA b a c).map D.int), .ol (f.map D.int), .d (.int c)]) ?_ ?_
      · walk_at "rm"
        refine Rm.ite (fun hk => ?_) (fun hk => ?_)
        · have hk : b < c := of_decide_eq_true hk
          walk_at "rm"
          refine Rm.lift (nin_ints _ _) ?_
          walk_at "rm"
          refine Rm.ite (fun hm => ?_) (fun hm => ?_)
          · have hm : c ∉ a := by simpa using hm
            walk_at "rm"
            refine Rm.vmt rfl ?_
            walk_at "rm"
            refine Rm.mtk rfl ?_
            refine Rm.app (by rw [List.length_map]; omega) ?_
            walk_at "rm"
            unfold stepA
            rw [if_pos ⟨hk, hm⟩, List.map_append]
            exact ⟨rfl, rfl⟩
          · have hm : c ∈ a := by simpa using hm
            walk_at "rm"
            unfold stepA
            rw [if_neg fun z => z.2 hm]
            exact ⟨rfl, rfl⟩
        · have hk : ¬ b < c := of_decide_eq_false hk
          walk_at "rm"
          unfold stepA
          rw [if_neg fun z => hk z.1]
          exact ⟨rfl, rfl⟩
      · have last : ∀ z : Int, z = codeA b (stepA b a c) c → ∃ (r1 a1 f1 : List Int) (e : EV), r.map D.int = r1.map D.int ∧ [EV.d (.tup (row.map D.int)), .d (.int b), .ol ((stepA b a c).map D.int), .ol (f.map D.int ++ [D.int z]), .d (.int c)] = [.d (.tup (row.map D.int)), .d (.int b), .ol (a1.map D.int), .ol (f1.map D.int), e] ∧ s' = s' ∧ f1 ++ runA b a1 r1 = runA b [] row ∧ a1.length + r1.length ≤ row.length ∧ f1.length + r1.length ≤ row.length := by
          intro z hz
          refine ⟨r, stepA b a c, f ++ [z], .d (.int c), rfl, ?_, rfl, ?_, hla, ?_⟩
          · rw [List.map_append]
            rfl
          · rw [hz, List.append_assoc]
            exact h2
          · rw [List.length_append]; show f.length + 1 + r.length ≤ _; omega
        walk_at "rm"
        refine Rm.vmt rfl ?_
        walk_at "rm"
        refine Rm.ite (fun hk => ?_) (fun hk => ?_)
        · have hk : c ≤ b := of_decide_eq_true hk
          walk_at "rm"
          refine Rm.mtk rfl ?_
          refine Rm.app (by rw [List.length_map]; omega) ?_
          exact last c (by unfold codeA; rw [if_pos hk])
        · have hk : ¬ c ≤ b := of_decide_eq_false hk
          walk_at "rm"
          refine Rm.mtT ?_
          walk_at "rm"
          refine ⟨rfl, ?_⟩
          walk_at "rm"
          refine Rm.lift (index_ints (step_mem (by omega))) ?_
          walk_at "rm"
          refine Rm.mtk rfl ?_
          refine Rm.app (by rw [List.length_map]; omega) ?_
          exact last _ (by unfold codeA; rw [if_neg hk])
  · rintro ρ s' ⟨r, a, f, e, h1, rfl, rfl, h2, _⟩
    cases r with
    | cons c r' => cases h1
    | nil =>
      rw [show runA b a [] = [] from rfl, List.append_nil] at h2
      subst h2
      walk_at "rm"
      exact ⟨rfl, rfl⟩

end Q

set_option Elab.async false
set_option linter.all false
set_option maxRecDepth 100000
set_option maxHeartbeats 4000000
namespace Q
open PySem PySem.Spec PyProof.Rows L2 DL
/-- the codes as a dict -/
def kvA (b : Int) : Nat → List Int → List (Key × D)
  | _, [] => []
  | i, x :: r => (.inl x, .int (b + 1 + (i : Nat))) :: kvA b (i + 1) r
theorem kvA_len (b : Int) : ∀ (i : Nat) (a : List Int), (kvA b i a).length = a.length
  | _, [] => rfl
  | i, x :: r => congrArg (· + 1) (kvA_len b (i + 1) r)
theorem kvA_app (b : Int) (x : Int) : ∀ (i : Nat) (a : List Int), kvA b i (a ++ [x]) = kvA b i a ++ [(.inl x, .int (b + 1 + ((i + a.length : Nat) : Int)))]
  | i, [] => rfl
  | i, y :: r => by
    show _ :: kvA b (i + 1) (r ++ [x]) = _ :: (kvA b (i + 1) r ++ _)
    rw [kvA_app b x (i + 1) r]
    congr 5
    simp
    omega
theorem kvA_any (b : Int) (x : Int) : ∀ (i : Nat) (a : List Int), ((kvA b i a).any fun kv => decide (kv.1 = .inl x)) = decide (x ∈ a)
  | _, [] => rfl
  | i, y :: r => by
    show (decide ((.inl y : Key) = .inl x) || _) = _
    rw [kvA_any b x (i + 1) r]
    by_cases h : y = x
    · subst h; simp
    · have h2 : x ≠ y := fun e => h e.symm
      have h4 : ¬ (.inl y : Key) = .inl x := fun e => h (Sum.inl.inj e)
      by_cases h3 : x ∈ r <;> simp [h4, h2, h3]
theorem kvA_put {b x : Int} {a : List Int} (h : x ∉ a) : putD (kvA b 0 a) (.inl x) (.int (b + 1 + (a.length : Int))) = kvA b 0 (a ++ [x]) := by
  unfold putD
  rw [kvA_any, if_neg (by simpa using h), kvA_app]
  simp
theorem kvA_look (b : Int) (x : Int) : ∀ (i : Nat) (a : List Int), lookD (kvA b i a) (.inl x) = if x ∈ a then some (.int (b + 1 + ((i + ixA a x : Nat) : Int))) else none
  | _, [] => rfl
  | i, y :: r => by
    by_cases h : y = x
    · subst h
      rw [if_pos List.mem_cons_self]
      have e2 : ixA (y :: r) y = 0 := by
        unfold ixA
        simp [List.findIdx_cons]
      rw [e2]
      unfold lookD kvA
      simp
    · have h2 : x ≠ y := fun e => h e.symm
      have h4 : ¬ (.inl y : Key) = .inl x := fun e => h (Sum.inl.inj e)
      have e1 : lookD (kvA b i (y :: r)) (.inl x) = lookD (kvA b (i + 1) r) (.inl x) := by
        unfold lookD
        show ((((Sum.inl y : Key), _) :: kvA b (i + 1) r).find? _).map _ = _
        rw [List.find?_cons_of_neg (by simpa using h4)]
      have e2 : ixA (y :: r) x = ixA r x + 1 := by
        unfold ixA
        rw [List.findIdx_cons]
        have : (y == x) = false := by simpa using h
        rw [this]
        rfl
      rw [e1, kvA_look b x (i + 1) r, e2]
      by_cases h3 : x ∈ r
      · rw [if_pos h3, if_pos (List.mem_cons_of_mem _ h3)]
        congr 4
        omega
      · rw [if_neg h3, if_neg (by simp [h2, h3])]
theorem case_of_ok (c : D) (row : List Int) (b : Int) (s : FS) (hl : row.length < sizeLine) (hc : anyD' c = some (row.map D.int)) : g_case_of [c, .int b] s = .ok (.tup ((runA b [] row).map D.int)) s := by
  refine Rm.det ?_
  unfold g_case_of
  refine Rm.run rfl ?_
  unfold b_case_of
  show Rm (gSeq _ _ [.d c, .d (.int b), .no, .no, .no]) s _
  walk_at "rm"
  refine Rm.lift hc ?_
  refine Rm.loop (fun xs ρ s' => ∃ (r a f : List Int) (e : EV), xs = r.map D.int ∧ ρ = [.d c, .d (.int b), .od (kvA b 0 a), .ol (f.map D.int), e] ∧ s' = s ∧ f ++ runA b a r = runA b [] row ∧ a.length + r.length ≤ row.length ∧ f.length + r.length ≤ row.length ∧ ∀ y, y ∈ a → b < y) ⟨row, [], [], _, rfl, rfl, rfl, rfl, by simp, by simp, fun y h => by simp at h⟩ ?_ ?_
  · rintro x xs ρ s' ⟨r, a, f, e, h1, rfl, rfl, h2, h3, h4, h5⟩
    cases r with
    | nil => cases h1
    | cons z r =>
      cases h1
      refine ⟨_, rfl, ?_⟩
      have h3' : a.length + (r.length + 1) ≤ row.length := h3
      have h4' : f.length + (r.length + 1) ≤ row.length := h4
      have hla : (stepA b a z).length + r.length ≤ row.length := by
        have := @step_len b z a
        omega
      have h5' : ∀ y, y ∈ stepA b a z → b < y := by
        intro y hy
        unfold stepA at hy
        split at hy
        · rcases List.mem_append.mp hy with hy | hy
          · exact h5 y hy
          · rw [List.mem_singleton] at hy; subst hy; rename_i q; exact q.1
        · exact h5 y hy
      have nin : (lookD (kvA b 0 a) (.inl z)).isSome = decide (z ∈ a) := by
        rw [kvA_look]
        by_cases h : z ∈ a
        · rw [if_pos h]; simp [h]
        · rw [if_neg h]; simp [h]
      refine Rm.seq1 (ρ' := [.d c, .d (.int b), .od (kvA b 0 (stepA b a z)), .ol (f.map D.int), .d (.int z)]) ?_ ?_
      · walk_at "rm"
        refine Rm.ite (fun hk => ?_) (fun hk => ?_)
        · have hk : b < z := of_decide_eq_true hk
          walk_at "rm"
          refine Rm.ite (fun hm => ?_) (fun hm => ?_)
          · have hm : z ∉ a := by
              change (!(lookD (kvA b 0 a) (.inl z)).isSome) = true at hm
              rw [nin] at hm
              simpa using hm
            walk_at "rm"
            refine Rm.stdk rfl ?_
            walk_at "rm"
            refine Rm.stdk2 rfl (by rw [kvA_len]; omega) ?_
            walk_at "rm"
            unfold stepA
            rw [if_pos ⟨hk, hm⟩, ← kvA_put hm, kvA_len]
            exact ⟨rfl, rfl⟩
          · have hm : z ∈ a := by
              change (!(lookD (kvA b 0 a) (.inl z)).isSome) = false at hm
              rw [nin] at hm
              simpa using hm
            walk_at "rm"
            unfold stepA
            rw [if_neg fun z => z.2 hm]
            exact ⟨rfl, rfl⟩
        · have hk : ¬ b < z := of_decide_eq_false hk
          walk_at "rm"
          unfold stepA
          rw [if_neg fun z => hk z.1]
          exact ⟨rfl, rfl⟩
      · have get : (lookD (kvA b 0 (stepA b a z)) (.inl z)).getD (.int z) = .int (codeA b (stepA b a z) z) := by
          rw [kvA_look]
          unfold codeA
          by_cases hk : z ≤ b
          · rw [if_neg (fun h => by have := h5' z h; omega), if_pos hk]
            rfl
          · rw [if_pos (step_mem (by omega)), if_neg hk]
            show D.int _ = _
            congr 2
            omega
        walk_at "rm"
        refine Rm.vmt rfl ?_
        walk_at "rm"
        refine Rm.lift (a := .int (codeA b (stepA b a z) z)) (by
          show scalD ((lookD (kvA b 0 (stepA b a z)) (.inl z)).getD (.int z)) = _
          rw [get]
          rfl) ?_
        walk_at "rm"
        refine Rm.mtk rfl ?_
        refine Rm.app (by rw [List.length_map]; omega) ?_
        refine ⟨r, stepA b a z, f ++ [codeA b (stepA b a z) z], .d (.int z), rfl, ?_, rfl, ?_, hla, ?_, h5'⟩
        · rw [List.map_append]
          rfl
        · rw [List.append_assoc]
          exact h2
        · rw [List.length_append]; show f.length + 1 + r.length ≤ _; omega
  · rintro ρ s' ⟨r, a, f, e, h1, rfl, rfl, h2, _⟩
    cases r with
    | cons c r' => cases h1
    | nil =>
      rw [show runA b a [] = [] from rfl, List.append_nil] at h2
      subst h2
      walk_at "rm"
      exact ⟨rfl, rfl⟩
/-- the codes b + 1, b + 2, .. -/
def upA (b : Int) (n : Nat) : List Int := (List.range n).map fun (i : Nat) => b + 1 + (i : Int)
theorem upA_len (b : Int) (n : Nat) : (upA b n).length = n := by simp [upA]
theorem upA_succ (b : Int) (n : Nat) : upA b (n + 1) = upA b n ++ [b + 1 + (n : Int)] := by simp [upA, List.range_succ]
theorem upA_mem {b c : Int} {n : Nat} : c ∈ upA b n ↔ ∃ i : Nat, i < n ∧ c = b + 1 + (i : Int) := by
  unfold upA
  simp only [List.mem_map, List.mem_range]
  exact ⟨fun ⟨i, h, e⟩ => ⟨i, h, e.symm⟩, fun ⟨i, h, e⟩ => ⟨i, h, e.symm⟩⟩
theorem upA_ix (b : Int) (i : Nat) : ∀ n, i < n → ixA (upA b n) (b + 1 + (i : Int)) = i
  | n + 1, h => by
    rw [upA_succ]
    unfold ixA
    rw [List.findIdx_append]
    by_cases h2 : i < n
    · have ih := upA_ix b i n h2
      unfold ixA at ih
      rw [ih, upA_len, if_pos h2]
    · have : i = n := by omega
      subst this
      have e : (upA b i).findIdx (fun y => y == b + 1 + (i : Int)) = i := by
        have := List.findIdx_eq_length_of_false (p := fun y => y == b + 1 + (i : Int)) (xs := upA b i) (fun y hy => by
          obtain ⟨j, hj, rfl⟩ := upA_mem.mp hy
          simp
          omega)
        rw [this, upA_len]
      rw [e, upA_len, if_neg (by omega)]
      simp [List.findIdx_cons]
theorem ixA_lt {a : List Int} {x : Int} (h : x ∈ a) : ixA a x < a.length := by
  unfold ixA
  exact List.findIdx_lt_length_of_exists ⟨x, h, by simp⟩
theorem ixA_new {a : List Int} {x : Int} (h : x ∉ a) : ixA (a ++ [x]) x = a.length := by
  unfold ixA
  rw [List.findIdx_append]
  have e : a.findIdx (fun y => y == x) = a.length := List.findIdx_eq_length_of_false (fun y hy => by
    simp
    exact fun q => h (q ▸ hy))
  rw [e, if_neg (by omega)]
  simp [List.findIdx_cons]
theorem run_idem (b : Int) : ∀ (r a : List Int), runA b (upA b a.length) (runA b a r) = runA b a r
  | [], a => rfl
  | x :: r, a => by
    show codeA b (stepA b (upA b a.length) (codeA b (stepA b a x) x)) (codeA b (stepA b a x) x) :: runA b (stepA b (upA b a.length) (codeA b (stepA b a x) x)) (runA b (stepA b a x) r) = codeA b (stepA b a x) x :: runA b (stepA b a x) r
    have key : stepA b (upA b a.length) (codeA b (stepA b a x) x) = upA b (stepA b a x).length ∧ codeA b (upA b (stepA b a x).length) (codeA b (stepA b a x) x) = codeA b (stepA b a x) x := by
      by_cases hx : x ≤ b
      · have e1 : stepA b a x = a := by unfold stepA; rw [if_neg (by omega)]
        have e2 : codeA b a x = x := by unfold codeA; rw [if_pos hx]
        rw [e1, e2]
        refine ⟨?_, ?_⟩
        · unfold stepA; rw [if_neg (by omega)]
        · unfold codeA; rw [if_pos hx]
      · have hc : codeA b (stepA b a x) x = b + 1 + (ixA (stepA b a x) x : Nat) := by unfold codeA; rw [if_neg hx]
        have hl := ixA_lt (step_mem (b := b) (a := a) (x := x) (by omega))
        rw [hc]
        have c2 : codeA b (upA b (stepA b a x).length) (b + 1 + (ixA (stepA b a x) x : Nat)) = b + 1 + (ixA (stepA b a x) x : Nat) := by
          unfold codeA
          rw [if_neg (by omega), upA_ix b _ _ hl]
        refine ⟨?_, c2⟩
        by_cases hm : x ∈ a
        · have e1 : stepA b a x = a := by unfold stepA; rw [if_neg fun z => z.2 hm]
          rw [e1] at hl ⊢
          unfold stepA
          rw [if_neg]
          exact fun z => z.2 (upA_mem.mpr ⟨_, hl, rfl⟩)
        · have e1 : stepA b a x = a ++ [x] := by unfold stepA; rw [if_pos ⟨by omega, hm⟩]
          rw [e1, ixA_new hm]
          unfold stepA
          rw [if_pos ⟨by omega, fun z => by
            obtain ⟨i, hi, e⟩ := upA_mem.mp z
            omega⟩]
          rw [List.length_append]
          show _ = upA b (a.length + 1)
          rw [upA_succ]
    rw [key.1, key.2, run_idem b r (stepA b a x)]
theorem run_idem0 (b : Int) (r : List Int) : runA b [] (runA b [] r) = runA b [] r := by
  have := run_idem b r []
  exact this
theorem run_len (b : Int) : ∀ (r a : List Int), (runA b a r).length = r.length
  | [], _ => rfl
  | x :: r, a => congrArg (· + 1) (run_len b r (stepA b a x))

end Q

set_option Elab.async false
set_option linter.all false
set_option maxRecDepth 100000
set_option maxHeartbeats 4000000
namespace Q
open PySem PySem.Spec PyProof.Rows L2 DL
def tI (r : List Int) : D := .tup (r.map D.int)
/-- the rows one longer than r -/
def nextA (b : Int) (r : List Int) : List (List Int) := (List.range (maxL (b :: r) + 2 - 1).toNat).map fun (i : Nat) => r ++ [1 + (i : Int)]
def rowsA (b : Int) : Nat → List (List Int)
  | 0 => [[]]
  | k + 1 => (rowsA b k).flatMap (nextA b)
theorem maxL_app (b c : Int) (r : List Int) : maxL (b :: (r ++ [c])) = max (maxL (b :: r)) c := by
  show (r ++ [c]).foldl max b = max (r.foldl max b) c
  rw [List.foldl_append]
  rfl
theorem rows_max {b : Int} : ∀ {k : Nat} {r : List Int}, r ∈ rowsA b k → b ≤ maxL (b :: r) ∧ maxL (b :: r) ≤ b + k ∧ r.length = k
  | 0, r, h => by
    rw [rowsA, List.mem_singleton] at h
    subst h
    exact ⟨Int.le_refl _, by show b ≤ b + 0; omega, rfl⟩
  | k + 1, r, h => by
    rw [rowsA, List.mem_flatMap] at h
    obtain ⟨r0, h0, h1⟩ := h
    obtain ⟨a1, a2, a3⟩ := rows_max h0
    unfold nextA at h1
    rw [List.mem_map] at h1
    obtain ⟨i, hi, rfl⟩ := h1
    rw [List.mem_range] at hi
    rw [maxL_app]
    refine ⟨by omega, by omega, by simp [a3]⟩
theorem rows_many {b : Int} (hb : 0 ≤ b) (hb4 : b ≤ 4) : ∀ {k : Nat}, k ≤ 4 → (rowsA b k).length ≤ 9 ^ k
  | 0, _ => by simp [rowsA]
  | k + 1, hk => by
    rw [rowsA, List.length_flatMap]
    have ih := rows_many hb hb4 (k := k) (by omega)
    have h : ∀ l : List (List Int), (∀ r, r ∈ l → r ∈ rowsA b k) → (l.map fun r => (nextA b r).length).sum ≤ l.length * 9 := by
      intro l
      induction l with
      | nil => intro _; simp
      | cons r l ih2 =>
        intro hl
        rw [List.map_cons, List.sum_cons, List.length_cons]
        have h2 := ih2 fun r hr => hl r (List.mem_cons_of_mem _ hr)
        have h3 := (rows_max (hl r List.mem_cons_self)).2.1
        have h4 : (nextA b r).length ≤ 9 := by
          unfold nextA
          rw [List.length_map, List.length_range]
          omega
        omega
    have := h (rowsA b k) fun _ h => h
    rw [Nat.pow_succ]
    omega
theorem ints_int : ∀ a : List Int, intsD (a.map D.int) = some a
  | [] => rfl
  | x :: r => by
    show (intsD (r.map D.int)).map _ = _
    rw [ints_int r]
    rfl
theorem max_ok (b : Int) (r : List Int) : maxD [.lst ([.int b] ++ r.map D.int)] = some (.int (maxL (b :: r))) := by
  show (intsD ((b :: r).map D.int)).bind _ = _
  rw [ints_int]
  show (if b :: r = [] then none else some (D.int (maxL (b :: r)))) = _
  rw [if_neg (by simp)]
theorem next_map (b : Int) (r : List Int) : (rangeD 1 (maxL (b :: r) + 2 - 1).toNat).map (fun x => D.tup (r.map D.int ++ [x])) = (nextA b r).map tI := by
  unfold rangeD nextA tI
  rw [List.map_map, List.map_map]
  refine List.map_congr_left fun i _ => ?_
  simp
theorem cases_ok (m : Nat) (b : Int) (s : FS) (hb : 0 ≤ b) (hb4 : b ≤ 4) (hm : m ≤ 4) : g_law_cases [.int m, .int b] s = .ok (.lst ((rowsA b m).map tI)) s := by
  refine Rm.det ?_
  show Rm (runD 7 2 b_law_cases [.int m, .int b]) s _
  generalize hZ : D.lst ((rowsA b m).map tI) = Z
  generalize hM : ((m : Nat) : Int) = M
  refine Rm.run (n := 7) (k := 2) rfl ?_
  subst hZ hM
  unfold b_law_cases
  show Rm (gSeq _ _ [.d (.int m), .d (.int b), .no, .no, .no, .no, .no]) s _
  have big : ∀ k : Nat, k ≤ 4 → 9 ^ k < 10000 := fun k hk => by
    have : k = 0 ∨ k = 1 ∨ k = 2 ∨ k = 3 ∨ k = 4 := by omega
    rcases this with rfl | rfl | rfl | rfl | rfl <;> decide
  have hsz : sizeLine = 16777216 := rfl
  walk_at "rm"
  refine Rm.loop (fun xs ρ s' => ∃ (k : Nat) (e3 e4 e5 e6 : EV), k ≤ m ∧ xs.length = m - k ∧ ρ = [.d (.int m), .d (.int b), .d (.lst ((rowsA b k).map tI)), e3, e4, e5, e6] ∧ s' = s) ⟨0, _, _, _, _, by omega, by rw [rangeD_len]; omega, rfl, rfl⟩ ?_ ?_
  · rintro x xs ρ s' ⟨k, e3, e4, e5, e6, hk, hx, rfl, rfl⟩
    have hk1 : k + 1 ≤ m := by
      rw [List.length_cons] at hx
      omega
    refine ⟨_, rfl, ?_⟩
    show Rm _ _ _
    refine Rm.seq1 (ρ' := [.d (.int m), .d (.int b), .d (.lst ((rowsA b k).map tI)), .d x, .d (.lst []), e5, e6]) ?_ ?_
    · walk_at "rm"
      exact ⟨rfl, rfl⟩
    · refine Rm.seq ?_
      walk_at "rm"
      refine Rm.loop (fun ys ρ s2 => ∃ (l r : List (List Int)) (e5 e6 : EV), ys = r.map tI ∧ l ++ r = rowsA b k ∧ ρ = [.d (.int m), .d (.int b), .d (.lst ((rowsA b k).map tI)), .d x, .d (.lst ((l.flatMap (nextA b)).map tI)), e5, e6] ∧ s2 = s') ⟨[], rowsA b k, _, _, rfl, rfl, rfl, rfl⟩ ?_ ?_
      · rintro y ys ρ s2 ⟨l, r, e5, e6, h1, h2, rfl, rfl⟩
        cases r with
        | nil => cases h1
        | cons z r =>
          cases h1
          have hz : z ∈ rowsA b k := by rw [← h2]; simp
          obtain ⟨q1, q2, q3⟩ := rows_max hz
          have hbig := big (k + 1) (by omega)
          have htot := rows_many hb hb4 (k := k + 1) (by omega)
          have hpart : (l.flatMap (nextA b)).length + (nextA b z).length ≤ (rowsA b (k + 1)).length := by
            rw [rowsA, ← h2, List.flatMap_append, List.length_append, List.flatMap_cons, List.length_append]
            omega
          refine ⟨_, rfl, ?_⟩
          show Rm _ _ _
          walk_at "rm"
          · rw [List.length_map, q3]; show 1 + k ≤ _; omega
          walk_at "rm"
          refine Rm.lift (max_ok b z) ?_
          walk_at "rm"
          refine ⟨by rw [rangeD_len]; omega, Rm.lcMap (fun x => D.tup (z.map D.int ++ [x])) (fun x hm => ⟨_, rfl, ?_⟩) ?_⟩
          · refine Rm.det ?_
            walk_at "rm"
            show Rm (M.lift (addD (.tup (z.map D.int)) (.tup [x]))) _ _
            refine Rm.addt (by rw [List.length_map, q3]; show k + 1 ≤ _; omega) ?_
            exact ⟨rfl, rfl⟩
          · rw [next_map]
            walk_at "rm"
            · rw [List.length_map, List.length_map]; omega
            walk_at "rm"
            refine ⟨l ++ [z], r, .d (tI z), e6, rfl, by rw [← h2]; simp, ?_, rfl⟩
            rw [List.flatMap_append, List.map_append]
            show [_, _, _, _, _, _, _] = _
            simp
      · rintro ρ s2 ⟨l, r, e5, e6, h1, h2, rfl, rfl⟩
        cases r with
        | cons c r' => cases h1
        | nil =>
          rw [List.append_nil] at h2
          subst h2
          walk_at "rm"
          exact ⟨k + 1, _, _, _, _, hk1, by rw [List.length_cons] at hx; omega, rfl, rfl⟩
  · rintro ρ s' ⟨k, e3, e4, e5, e6, hk, hx, rfl, rfl⟩
    have : k = m := by
      simp at hx
      omega
    subst this
    walk_at "rm"
    exact ⟨rfl, rfl⟩
theorem run_rows (b : Int) : ∀ (r a p : List Int) (k : Nat), maxL (b :: p) = b + a.length → (∀ x, x ∈ r → 1 ≤ x) → 0 ≤ b → p ∈ rowsA b k → p ++ runA b a r ∈ rowsA b (k + r.length)
  | [], a, p, k, _, _, _, h => by
    rw [show runA b a [] = [] from rfl, List.append_nil]
    exact h
  | x :: r, a, p, k, hm, hx, hb, h => by
    have h1 := hx x List.mem_cons_self
    have key : maxL (b :: (p ++ [codeA b (stepA b a x) x])) = b + (stepA b a x).length ∧ 1 ≤ codeA b (stepA b a x) x ∧ codeA b (stepA b a x) x ≤ maxL (b :: p) + 1 := by
      rw [maxL_app, hm]
      by_cases hk : x ≤ b
      · have e1 : stepA b a x = a := by unfold stepA; rw [if_neg (by omega)]
        have e2 : codeA b a x = x := by unfold codeA; rw [if_pos hk]
        rw [e1, e2]
        refine ⟨by omega, h1, by omega⟩
      · have hc : codeA b (stepA b a x) x = b + 1 + (ixA (stepA b a x) x : Nat) := by unfold codeA; rw [if_neg hk]
        rw [hc]
        by_cases hmem : x ∈ a
        · have e1 : stepA b a x = a := by unfold stepA; rw [if_neg fun z => z.2 hmem]
          rw [e1]
          have := ixA_lt hmem
          refine ⟨by omega, by omega, by omega⟩
        · have e1 : stepA b a x = a ++ [x] := by unfold stepA; rw [if_pos ⟨by omega, hmem⟩]
          rw [e1, ixA_new hmem, List.length_append]
          show max _ _ = b + ((a.length + 1 : Nat) : Int) ∧ _
          refine ⟨by omega, by omega, by omega⟩
    have step : p ++ [codeA b (stepA b a x) x] ∈ rowsA b (k + 1) := by
      rw [rowsA, List.mem_flatMap]
      refine ⟨p, h, ?_⟩
      unfold nextA
      rw [List.mem_map]
      refine ⟨(codeA b (stepA b a x) x - 1).toNat, ?_, ?_⟩
      · rw [List.mem_range]; omega
      · congr 2
        omega
    have := run_rows b r (stepA b a x) (p ++ [codeA b (stepA b a x) x]) (k + 1) key.1 (fun y hy => hx y (List.mem_cons_of_mem _ hy)) hb step
    rw [List.append_assoc] at this
    rw [List.length_cons, show k + (r.length + 1) = k + 1 + r.length by omega]
    exact this
theorem py_ints : ∀ a : List Int, pyL (a.map D.int) = some (a.map PyData.int)
  | [] => rfl
  | x :: r => by
    show (pyD (.int x)).bind _ = _
    show (pyL (r.map D.int)).map _ = _
    rw [py_ints r]
    rfl
theorem py_tI (a : List Int) : pyD (tI a) = some (.tuple (a.map PyData.int)) := by
  show (pyL (a.map D.int)).map _ = _
  rw [py_ints]
  rfl
theorem py_rows : ∀ R : List (List Int), pyL (R.map tI) = some (R.map fun a => PyData.tuple (a.map PyData.int))
  | [] => rfl
  | a :: R => by
    show (pyD (tI a)).bind _ = _
    rw [py_tI]
    show (pyL (R.map tI)).map _ = _
    rw [py_rows R]
    rfl
theorem lay_ints : ∀ a : List Int, PyData.canLayAll0 (a.map PyData.int) = true
  | [] => by rw [List.map_nil, PyData.canLayAll0]
  | x :: r => by rw [List.map_cons, PyData.canLayAll0, lay_ints r, PyData.canLay0]; rfl
theorem dep_ints : ∀ a : List Int, PyData.depthAll (a.map PyData.int) = 0
  | [] => by rw [List.map_nil, PyData.depthAll]
  | x :: r => by rw [List.map_cons, PyData.depthAll, dep_ints r, PyData.depth]; rfl
theorem lay_tI (a : List Int) : PyData.canLay0 (.tuple (a.map PyData.int)) = true := by rw [PyData.canLay0, lay_ints]
theorem dep_tI (a : List Int) : PyData.depth (.tuple (a.map PyData.int)) = 1 := by rw [PyData.depth, dep_ints]
theorem lay_rows : ∀ R : List (List Int), PyData.canLayAll0 (R.map fun a => PyData.tuple (a.map PyData.int)) = true
  | [] => by rw [List.map_nil, PyData.canLayAll0]
  | x :: r => by rw [List.map_cons, PyData.canLayAll0, lay_rows r, lay_tI]; rfl
theorem dep_rows : ∀ R : List (List Int), PyData.depthAll (R.map fun a => PyData.tuple (a.map PyData.int)) ≤ 1
  | [] => by rw [List.map_nil, PyData.depthAll]; omega
  | x :: r => by rw [List.map_cons, PyData.depthAll, dep_tI]; have := dep_rows r; omega
theorem eqv_ints : ∀ a : List Int, PyData.eqvAll (a.map PyData.int) (a.map PyData.int) = true
  | [] => by rw [List.map_nil, PyData.eqvAll]
  | x :: r => by rw [List.map_cons, PyData.eqvAll, eqv_ints r, PyData.eqv]; simp
theorem nin_rows {a : List Int} {R : List (List Int)} (h : a ∈ R) : ninD (tI a) (.lst (R.map tI)) = some (.bl false) := by
  have e : inB (tI a) (.lst (R.map tI)) = some true := by
    show ((pyD (tI a)).bind fun p => (pyL (R.map tI)).bind fun ps => if SeqAt.shaped p = true ∧ SeqAt.shaped (.list ps) = true then some (ps.any fun z => PyData.eqv z p) else none) = _
    rw [py_tI, py_rows]
    have s1 : SeqAt.shaped (.tuple (a.map PyData.int)) = true := by
      unfold SeqAt.shaped
      rw [lay_tI, dep_tI]
      rfl
    have s2 : SeqAt.shaped (.list (R.map fun a => PyData.tuple (a.map PyData.int))) = true := by
      unfold SeqAt.shaped
      rw [PyData.canLay0, lay_rows, PyData.depth]
      have := dep_rows R
      simp
      omega
    show (if SeqAt.shaped (.tuple (a.map PyData.int)) = true ∧ SeqAt.shaped (.list (R.map fun a => PyData.tuple (a.map PyData.int))) = true then some ((R.map fun a => PyData.tuple (a.map PyData.int)).any fun z => PyData.eqv z (.tuple (a.map PyData.int))) else none) = _
    rw [if_pos ⟨s1, s2⟩]
    congr 1
    rw [List.any_eq_true]
    refine ⟨_, List.mem_map.mpr ⟨a, h, rfl⟩, ?_⟩
    rw [PyData.eqv, eqv_ints]
  unfold ninD
  rw [e]
  rfl

end Q

set_option Elab.async false
set_option linter.all false
set_option maxRecDepth 100000
set_option maxHeartbeats 4000000
namespace Q
open PySem PySem.Spec PyProof.Rows L2 DL
theorem putD_new {acc : List (Key × D)} {k : Key} {v : D} (h : k ∉ acc.map (·.1)) : putD acc k v = acc ++ [(k, v)] := by
  unfold putD
  refine if_neg fun e => ?_
  obtain ⟨p, hp, g⟩ := List.any_eq_true.mp e
  exact h (List.mem_map.mpr ⟨p, hp, of_decide_eq_true g⟩)
theorem fold_put {α : Type} (gk : α → Key) (gv : α → D) : ∀ {l : List α} {acc : List (Key × D)}, ((acc.map (·.1)) ++ l.map gk).Nodup → l.foldl (fun acc a => putD acc (gk a) (gv a)) acc = acc ++ l.map fun a => (gk a, gv a)
  | [], acc, _ => by rw [List.map_nil, List.append_nil]; rfl
  | a :: r, acc, h => by
    have hk : gk a ∉ acc.map (·.1) := fun g => by
      rw [List.map_cons] at h
      exact (List.nodup_append.mp h).2.2 _ g _ List.mem_cons_self rfl
    rw [List.foldl_cons, putD_new hk, fold_put gk gv (l := r) (by rw [List.map_append, List.append_assoc]; exact h), List.append_assoc]
    rfl
theorem dcA {α : Type} {l : List α} {ρ : Env'} {s : FS} {b : D → Option Asg} {kf vf : Env' → M D} (h : α → D) (gk : α → Key) (gv : α → D) : ∀ {acc : List (Key × D)}, acc.length + l.length ≤ sizeLine → (∀ a, a ∈ l → ∃ as, b (h a) = some as ∧ kf (setE as ρ) s = .ok (keyV (gk a)) s ∧ vf (setE as ρ) s = .ok (gv a) s) → dcE b cYes kf vf (l.map h) ρ acc s = .ok (l.foldl (fun acc a => putD acc (gk a) (gv a)) acc) s := by
  induction l with
  | nil => intro acc _ _; rfl
  | cons x r ih =>
    intro acc hl H
    obtain ⟨as, e, h1, h2⟩ := H x List.mem_cons_self
    rw [List.length_cons] at hl
    have ih := ih (acc := putD acc (gk x) (gv x)) (by have := putD_le acc (gk x) (gv x); omega) fun x hx => H x (List.mem_cons_of_mem _ hx)
    refine Rm.det ?_
    show Rm (M.bind (M.lift (b (h x))) _) s _
    rw [e]
    refine Rm.bind (Rm.lift rfl (Rm.bind (Rm.cyes ?_)))
    rw [if_pos rfl]
    refine Rm.bind (Rm.eq h1 (Rm.bind (Rm.eq h2 (Rm.bind (Rm.lift (a := gk x) ?_ ?_)))))
    · cases gk x <;> rfl
    · rw [if_pos (by omega)]
      exact Rm.eq ih ⟨rfl, rfl⟩
def upB (b x : Int) : Bool := decide (b < x)
/-- the codes above the bound, by their number, downwards -/
def rankF (b : Int) (c : List Int) : List Int := SL.sortK c (sortDdI (c.filter (upB b)))
def leastF (b : Int) (c : List Int) : List Int := c.map fun x => if x ∈ rankF b c then b + 1 + ((ixA (rankF b c) x : Nat) : Int) else x
theorem rank_perm (b : Int) (c : List Int) : (rankF b c).Perm (ddI (c.filter (upB b))) := (List.mergeSort_perm _ _).trans (sortI_perm _)
theorem rank_nodup (b : Int) (c : List Int) : (rankF b c).Nodup := (rank_perm b c).nodup_iff.mpr (ddI_nodup _)
theorem rank_mem {b x : Int} {c : List Int} : x ∈ rankF b c ↔ x ∈ c ∧ b < x := by
  rw [(rank_perm b c).mem_iff, ddI_mem, List.mem_filter]
  unfold upB
  rw [decide_eq_true_eq]
theorem ddI_len : ∀ l : List Int, (ddI l).length ≤ l.length
  | [] => Nat.le_refl _
  | x :: r => by
    have := ddI_len r
    unfold ddI
    split
    · simp only [List.length_cons]; omega
    · simp only [List.length_cons]; omega
theorem rank_len (b : Int) (c : List Int) : (rankF b c).length ≤ c.length := by
  rw [(rank_perm b c).length_eq]
  exact Nat.le_trans (ddI_len _) (List.length_filter_le _ _)
theorem enum_int : ∀ (ls : List Int) (k : Nat), enumD k (ls.map .int) = (ls.zip (List.range' k ls.length)).map fun p => D.tup [.int ((p.2 : Nat) : Int), .int p.1]
  | [], k => rfl
  | a :: r, k => by
    rw [List.length_cons, List.range'_succ, List.zip_cons_cons, List.map_cons, List.map_cons, enumD, enum_int r (k + 1)]
theorem kvA_zip (b : Int) : ∀ (ls : List Int) (k : Nat), ((ls.zip (List.range' k ls.length)).map fun p => ((Sum.inl p.1 : Key), D.int (b + 1 + ((p.2 : Nat) : Int)))) = kvA b k ls
  | [], k => rfl
  | a :: r, k => by
    rw [List.length_cons, List.range'_succ, List.zip_cons_cons, List.map_cons, kvA_zip b r (k + 1)]
    rfl
theorem inl_nodup : ∀ {ls : List Int}, ls.Nodup → (ls.map (Sum.inl : Int → Key)).Nodup
  | [], _ => List.nodup_nil
  | x :: r, h => by
    rw [List.nodup_cons] at h
    rw [List.map_cons, List.nodup_cons]
    refine ⟨fun z => ?_, inl_nodup h.2⟩
    obtain ⟨y, hy, e⟩ := List.mem_map.mp z
    cases e
    exact h.1 hy
theorem least_ok (c : List Int) (b : Int) (s : FS) (hl : c.length ≤ 1000) (hb : -(2 ^ 60) < b ∧ b < 2 ^ 60) : g_least_sizes [.tup (c.map .int), .int b] s = .ok (.lst ((leastF b c).map .int)) s := by
  have hsz : sizeLine = 16777216 := rfl
  refine Rm.det ?_
  unfold g_least_sizes
  refine Rm.run rfl ?_
  unfold b_least_sizes
  show Rm (gSeq _ _ [.d (.tup (c.map .int)), .d (.int b), .no, .no, .no, .no, .no]) s _
  have hr := rank_len b c
  refine Rm.seq1 (ρ' := [.d (.tup (c.map .int)), .d (.int b), .d (.lst ((sortDdI (c.filter (upB b))).map .int)), .no, .no, .no, .no]) ?_ ?_
  · refine Rm.set (Rm.vmask (Rm.bind (Rm.bind ?_)))
    walk_at "rm"
    refine Rm.quiet (Rm.eq (lcE_filter (fun x => match x with | .int i => upB b i | _ => false) (fun x => x) fun x hx => ?_) ?_)
    · obtain ⟨i, hi, rfl⟩ := List.mem_map.mp hx
      refine ⟨_, rfl, Rm.det ?_, fun _ => Rm.det ?_⟩
      · walk_at "rm"
        exact ⟨rfl, rfl⟩
      · walk_at "rm"
        exact ⟨rfl, rfl⟩
    have e1 : (((c.map D.int).filter (fun x => match x with | .int i => upB b i | _ => false)).map fun x => x) = (c.filter (upB b)).map .int := by
      rw [List.map_id', List.filter_map]
      rfl
    rw [e1]
    have e2 : fitsL 4000 isIntD ((c.filter (upB b)).map .int) = true := by
      unfold fitsL
      rw [Bool.and_eq_true, decide_eq_true_eq, List.all_eq_true]
      refine ⟨by rw [List.length_map]; have := List.length_filter_le (upB b) c; omega, fun x hx => ?_⟩
      obtain ⟨i, _, rfl⟩ := List.mem_map.mp hx
      rfl
    rw [if_pos e2]
    refine Rm.pure ?_
    refine Rm.lift (a := .lst ((sortDdI (c.filter (upB b))).map .int)) ?_ ?_
    · unfold sortSetID
      rw [intsD_map]
      rfl
    exact ⟨rfl, rfl⟩
  refine Rm.seq1 (ρ' := [.d (.tup (c.map .int)), .d (.int b), .d (.lst ((sortDdI (c.filter (upB b))).map .int)), .d (.lst ((rankF b c).map .int)), .no, .no, .no]) ?_ ?_
  · refine Rm.set (Rm.vmask (Rm.bind ?_))
    walk_at "rm"
    refine Rm.lift (a := .lst ((rankF b c).map .int)) ?_ ?_
    · show (intsD (c.map .int)).bind _ = _
      rw [intsD_map]
      show (intsD ((sortDdI (c.filter (upB b))).map .int)).map _ = _
      rw [intsD_map]
      rfl
    exact ⟨rfl, rfl⟩
  refine Rm.seq1 (ρ' := [.d (.tup (c.map .int)), .d (.int b), .d (.lst ((sortDdI (c.filter (upB b))).map .int)), .d (.lst ((rankF b c).map .int)), .d (.dic (kvA b 0 (rankF b c))), .no, .no]) ?_ ?_
  · refine Rm.set (Rm.vmask (Rm.bind (Rm.dc (ys := kvA b 0 (rankF b c)) ?_)))
    walk_at "rm"
    rw [enum_int]
    refine ⟨(dcA (fun p : Int × Nat => D.tup [.int ((p.2 : Nat) : Int), .int p.1]) (fun p => .inl p.1) (fun p => .int (b + 1 + ((p.2 : Nat) : Int))) (by rw [List.length_zip]; show 0 + min _ _ ≤ _; omega) fun p hp => ⟨_, rfl, rfl, Rm.det ?_⟩).trans ?_, ?_⟩
    · walk_at "rm"
      exact ⟨rfl, rfl⟩
    · rw [fold_put, List.nil_append, kvA_zip]
      have e : ((rankF b c).zip (List.range' 0 (rankF b c).length)).map (fun p : Int × Nat => (Sum.inl p.1 : Key)) = (rankF b c).map Sum.inl := by
        have e1 : ((rankF b c).zip (List.range' 0 (rankF b c).length)).map (·.1) = rankF b c := List.map_fst_zip (by rw [List.length_range']; exact Nat.le_refl _)
        conv => rhs; rw [← e1]
        rw [List.map_map]
        rfl
      show (List.map (fun p : Int × Nat => (Sum.inl p.1 : Key)) _).Nodup
      rw [e]
      exact inl_nodup (rank_nodup b c)
    exact ⟨rfl, rfl⟩
  walk_at "rm"
  refine ⟨by rw [List.length_map]; omega, Rm.lcMap (fun x => match x with | .int i => .int (if i ∈ rankF b c then b + 1 + ((ixA (rankF b c) i : Nat) : Int) else i) | x => x) (fun x hx => ?_) ?_⟩
  · obtain ⟨i, hi, rfl⟩ := List.mem_map.mp hx
    refine ⟨_, rfl, Rm.det ?_⟩
    walk_at "rm"
    refine ⟨?_, rfl⟩
    show (lookD (kvA b 0 (rankF b c)) (.inl i)).getD (.int i) = D.int (if i ∈ rankF b c then b + 1 + ((ixA (rankF b c) i : Nat) : Int) else i)
    rw [kvA_look]
    by_cases h : i ∈ rankF b c
    · rw [if_pos h, if_pos h, Nat.zero_add]
      rfl
    · rw [if_neg h, if_neg h]
      rfl
  · rw [List.map_map]
    refine ⟨?_, rfl⟩
    unfold leastF
    rw [List.map_map]
    rfl

end Q

set_option Elab.async false
set_option linter.all false
set_option maxRecDepth 100000
set_option maxHeartbeats 4000000
namespace Q
open PySem PySem.Spec PyProof.Rows L2 DL
/-- all rows of sizes up to t -/
def nextR (t : Nat) (r : List Int) : List (List Int) := (List.range t).map fun (i : Nat) => r ++ [1 + (i : Int)]
def rowsT (t : Nat) : Nat → List (List Int)
  | 0 => [[]]
  | k + 1 => (rowsT t k).flatMap (nextR t)
theorem rowsT_len (t : Nat) : ∀ k, (rowsT t k).length = t ^ k
  | 0 => by simp [rowsT]
  | k + 1 => by
    rw [rowsT, List.length_flatMap]
    have h : ∀ l : List (List Int), (l.map fun r => (nextR t r).length).sum = l.length * t := by
      intro l
      induction l with
      | nil => simp
      | cons r l ih =>
        rw [List.map_cons, List.sum_cons, ih, List.length_cons]
        have : (nextR t r).length = t := by unfold nextR; rw [List.length_map, List.length_range]
        rw [this, Nat.add_mul]
        omega
    have e := h (rowsT t k)
    rw [show (fun r => (nextR t r).length) = fun r => (nextR t r).length from rfl] at e
    rw [e, rowsT_len t k, Nat.pow_succ]
theorem rowsT_mem {t : Nat} : ∀ {k : Nat} {r : List Int}, r ∈ rowsT t k → r.length = k ∧ ∀ x, x ∈ r → 1 ≤ x ∧ x ≤ t
  | 0, r, h => by
    rw [rowsT, List.mem_singleton] at h
    subst h
    exact ⟨rfl, fun x hx => by cases hx⟩
  | k + 1, r, h => by
    rw [rowsT, List.mem_flatMap] at h
    obtain ⟨r0, h0, h1⟩ := h
    obtain ⟨a1, a2⟩ := rowsT_mem h0
    unfold nextR at h1
    rw [List.mem_map] at h1
    obtain ⟨i, hi, rfl⟩ := h1
    rw [List.mem_range] at hi
    refine ⟨by rw [List.length_append, a1]; rfl, fun x hx => ?_⟩
    rcases List.mem_append.mp hx with hx | hx
    · exact a2 x hx
    · rw [List.mem_singleton] at hx
      omega
theorem nextR_map (t : Nat) (r : List Int) : (rangeD 1 t).map (fun x => D.tup (r.map D.int ++ [x])) = (nextR t r).map tI := by
  unfold rangeD nextR tI
  rw [List.map_map, List.map_map]
  refine List.map_congr_left fun i _ => ?_
  simp
def sortedR (t k : Nat) : List (List Int) := (((rowsT t k).map fun r => (r.sum, r)).mergeSort pLe).map (·.2)
theorem pairs_of : ∀ ps : List (Int × List Int), pairsI (ps.map pairB) = some ps
  | [] => rfl
  | p :: r => by
    show (pairI (pairB p)).bind _ = _
    have e : pairI (pairB p) = some p := by
      show (intsD (p.2.map .int)).map _ = _
      rw [intsD_map]
      rfl
    rw [e]
    show (pairsI (r.map pairB)).map _ = _
    rw [pairs_of r]
    rfl
theorem rows_ok (m t : Nat) (s : FS) (hm : m ≤ 4) (ht : t ≤ 7) : g_law_rows [.int m, .int t] s = .ok (.lst ((sortedR t m).map tI)) s := by
  refine Rm.det ?_
  show Rm (runD 8 2 b_law_rows [.int m, .int t]) s _
  generalize hZ : D.lst ((sortedR t m).map tI) = Z
  generalize hM : ((m : Nat) : Int) = M
  generalize hT : ((t : Nat) : Int) = TT
  refine Rm.run (n := 8) (k := 2) rfl ?_
  subst hZ hM hT
  unfold b_law_rows
  show Rm (gSeq _ _ [.d (.int m), .d (.int t), .no, .no, .no, .no, .no, .no]) s _
  have big : ∀ k : Nat, k ≤ 4 → (rowsT t k).length ≤ 2401 := fun k hk => by
    rw [rowsT_len]
    have h1 : t ^ k ≤ 7 ^ k := Nat.pow_le_pow_left ht k
    have h2 : 7 ^ k ≤ 7 ^ 4 := Nat.pow_le_pow_right (by decide) hk
    exact Nat.le_trans h1 (Nat.le_trans h2 (by decide))
  have hsz : sizeLine = 16777216 := rfl
  walk_at "rm"
  refine Rm.loop (fun xs ρ s' => ∃ (k : Nat) (e3 e4 e5 e6 e7 : EV), k ≤ m ∧ xs.length = m - k ∧ ρ = [.d (.int m), .d (.int t), .d (.lst ((rowsT t k).map tI)), e3, e4, e5, e6, e7] ∧ s' = s) ⟨0, _, _, _, _, _, by omega, by rw [rangeD_len]; omega, rfl, rfl⟩ ?_ ?_
  · rintro x xs ρ s' ⟨k, e3, e4, e5, e6, e7, hk, hx, rfl, rfl⟩
    have hk1 : k + 1 ≤ m := by
      rw [List.length_cons] at hx
      omega
    refine ⟨_, rfl, ?_⟩
    show Rm _ _ _
    refine Rm.seq1 (ρ' := [.d (.int m), .d (.int t), .d (.lst ((rowsT t k).map tI)), .d x, .d (.lst []), e5, e6, e7]) ?_ ?_
    · walk_at "rm"
      exact ⟨rfl, rfl⟩
    · refine Rm.seq ?_
      walk_at "rm"
      refine Rm.loop (fun ys ρ s2 => ∃ (l r : List (List Int)) (e5 e6 : EV), ys = r.map tI ∧ l ++ r = rowsT t k ∧ ρ = [.d (.int m), .d (.int t), .d (.lst ((rowsT t k).map tI)), .d x, .d (.lst ((l.flatMap (nextR t)).map tI)), e5, e6, e7] ∧ s2 = s') ⟨[], rowsT t k, _, _, rfl, rfl, rfl, rfl⟩ ?_ ?_
      · rintro y ys ρ s2 ⟨l, r, e5, e6, h1, h2, rfl, rfl⟩
        cases r with
        | nil => cases h1
        | cons z r =>
          cases h1
          have hz : z ∈ rowsT t k := by rw [← h2]; simp
          obtain ⟨q3, q2⟩ := rowsT_mem hz
          have htot := big (k + 1) (by omega)
          have hpart : (l.flatMap (nextR t)).length + (nextR t z).length ≤ (rowsT t (k + 1)).length := by
            rw [rowsT, ← h2, List.flatMap_append, List.length_append, List.flatMap_cons, List.length_append]
            omega
          refine ⟨_, rfl, ?_⟩
          show Rm _ _ _
          walk_at "rm"
          refine ⟨by rw [rangeD_len]; omega, Rm.lcMap (fun x => D.tup (z.map D.int ++ [x])) (fun x hm => ⟨_, rfl, ?_⟩) ?_⟩
          · refine Rm.det ?_
            walk_at "rm"
            show Rm (M.lift (addD (.tup (z.map D.int)) (.tup [x]))) _ _
            refine Rm.addt (by rw [List.length_map, q3]; show k + 1 ≤ _; omega) ?_
            exact ⟨rfl, rfl⟩
          · rw [show ((t : Int) + 1 - 1).toNat = t by omega, nextR_map]
            walk_at "rm"
            · rw [List.length_map, List.length_map]; omega
            walk_at "rm"
            refine ⟨l ++ [z], r, .d (tI z), e6, rfl, by rw [← h2]; simp, ?_, rfl⟩
            rw [List.flatMap_append, List.map_append]
            show [_, _, _, _, _, _, _, _] = _
            simp
      · rintro ρ s2 ⟨l, r, e5, e6, h1, h2, rfl, rfl⟩
        cases r with
        | cons c r' => cases h1
        | nil =>
          rw [List.append_nil] at h2
          subst h2
          walk_at "rm"
          exact ⟨k + 1, _, _, _, _, _, hk1, by rw [List.length_cons] at hx; omega, rfl, rfl⟩
  · rintro ρ s' ⟨k, e3, e4, e5, e6, e7, hk, hx, rfl, rfl⟩
    have : k = m := by
      simp at hx
      omega
    subst this
    have hlen := big k hm
    walk_at "rm"
    refine ⟨by rw [List.length_map]; omega, Rm.lcMap (fun x => match x with | .tup cs => .tup [.int ((intsD cs).getD []).sum, .tup cs] | x => x) (fun x hx => ?_) ?_⟩
    · obtain ⟨r, hr, rfl⟩ := List.mem_map.mp hx
      refine ⟨_, rfl, Rm.det ?_⟩
      walk_at "rm"
      refine Rm.lift (a := .int r.sum) ?_ ?_
      · show (intsD (r.map .int)).map _ = _
        rw [intsD_map]
        rfl
      walk_at "rm"
      refine ⟨?_, rfl⟩
      show D.tup [.int r.sum, .tup (r.map .int)] = D.tup [.int ((intsD (r.map .int)).getD []).sum, .tup (r.map .int)]
      rw [intsD_map]
      rfl
    · have e1 : ((rowsT t k).map tI).map (fun x => match x with | .tup cs => .tup [.int ((intsD cs).getD []).sum, .tup cs] | x => x) = ((rowsT t k).map fun r => (r.sum, r)).map pairB := by
        rw [List.map_map, List.map_map]
        refine List.map_congr_left fun r _ => ?_
        show D.tup [.int ((intsD (r.map .int)).getD []).sum, .tup (r.map .int)] = D.tup [.int r.sum, .tup (r.map .int)]
        rw [intsD_map]
        rfl
      rw [e1]
      have hl2 : (((rowsT t k).map fun r => (r.sum, r)).mergeSort pLe).length ≤ 2401 := by
        rw [List.length_mergeSort, List.length_map]
        exact hlen
      refine Rm.lnil ?_
      refine Rm.lift (a := D.lst ((((rowsT t k).map fun r => (r.sum, r)).mergeSort pLe).map pairB)) ?_ ?_
      · show (pairsI _).map _ = _
        rw [pairs_of]
        rfl
      walk_at "rm"
      refine ⟨by rw [List.length_map]; omega, Rm.lcMap (fun x => match x with | .tup [_, y] => y | x => x) (fun x hx => ?_) ?_⟩
      · obtain ⟨p, hp, rfl⟩ := List.mem_map.mp hx
        refine ⟨_, rfl, Rm.det ?_⟩
        walk_at "rm"
        exact ⟨rfl, rfl⟩
      · refine ⟨?_, rfl⟩
        unfold sortedR
        rw [List.map_map, List.map_map]
        rfl

end Q

set_option Elab.async false
set_option linter.all false
set_option maxRecDepth 100000
set_option maxHeartbeats 4000000
namespace Q
open PySem PySem.Spec PyProof.Rows L2 DL
theorem shaped_tI (a : List Int) : SeqAt.shaped (.tuple (a.map PyData.int)) = true := by
  unfold SeqAt.shaped
  rw [lay_tI, dep_tI]
  rfl
theorem eqv_dec (a b : List Int) : PyData.eqv (.tuple (a.map PyData.int)) (.tuple (b.map PyData.int)) = decide (a = b) := by
  by_cases h : a = b
  · rw [h, PyData.eqv, eqv_ints]
    simp
  · cases e : PyData.eqv (.tuple (a.map PyData.int)) (.tuple (b.map PyData.int)) with
    | true => exact absurd (DL.eqv_ints _ _ e) h
    | false => exact (decide_eq_false h).symm
theorem eq_tI (a b : List Int) : eqD (tI a) (tI b) = some (.bl (decide (a = b))) := by
  show (eqB.eqP (tI a) (tI b)).map D.bl = _
  unfold eqB.eqP
  rw [py_tI, py_tI]
  dsimp only
  rw [if_pos ⟨shaped_tI a, shaped_tI b⟩, eqv_dec]
  rfl
theorem shaped_lI (a : List Int) : SeqAt.shaped (.list (a.map PyData.int)) = true := by
  unfold SeqAt.shaped
  rw [PyData.canLay0, lay_ints, PyData.depth, dep_ints]
  rfl
theorem eqv_decL (a b : List Int) : PyData.eqv (.list (a.map PyData.int)) (.list (b.map PyData.int)) = decide (a = b) := by
  have e : PyData.eqv (.list (a.map PyData.int)) (.list (b.map PyData.int)) = PyData.eqv (.tuple (a.map PyData.int)) (.tuple (b.map PyData.int)) := by rw [PyData.eqv, PyData.eqv]
  rw [e, eqv_dec]
theorem eq_lI (a b : List Int) : eqD (.lst (a.map .int)) (.lst (b.map .int)) = some (.bl (decide (a = b))) := by
  show (eqB.eqP (.lst (a.map .int)) (.lst (b.map .int))).map D.bl = _
  unfold eqB.eqP
  have p : ∀ a : List Int, pyD (.lst (a.map .int)) = some (.list (a.map PyData.int)) := fun a => by
    show (pyL (a.map D.int)).map _ = _
    rw [py_ints]
    rfl
  rw [p, p]
  dsimp only
  rw [if_pos ⟨shaped_lI a, shaped_lI b⟩, eqv_decL]
  rfl
/-! ### the rank, by counting -/
def befB (c : List Int) (x y : Int) : Bool := SL.kLe c y x && decide (y ≠ x)
theorem kLe_anti {c : List Int} {x y : Int} (h1 : SL.kLe c x y = true) (h2 : SL.kLe c y x = true) : x = y := by
  unfold SL.kLe at h1 h2
  have a := of_decide_eq_true h1
  have b := of_decide_eq_true h2
  omega
theorem kLe_trans (c : List Int) (x y z : Int) (h1 : SL.kLe c x y = true) (h2 : SL.kLe c y z = true) : SL.kLe c x z = true := by
  unfold SL.kLe at h1 h2 ⊢
  have a := of_decide_eq_true h1
  have b := of_decide_eq_true h2
  exact decide_eq_true (by omega)
theorem kLe_total (c : List Int) (x y : Int) : (SL.kLe c x y || SL.kLe c y x) = true := by
  unfold SL.kLe
  rw [Bool.or_eq_true, decide_eq_true_eq, decide_eq_true_eq]
  omega
theorem rank_pair (b : Int) (c : List Int) : (rankF b c).Pairwise fun x y => SL.kLe c x y = true := List.pairwise_mergeSort (kLe_trans c) (kLe_total c) _
theorem ix_count (c : List Int) (x : Int) : ∀ l : List Int, l.Nodup → (l.Pairwise fun x y => SL.kLe c x y = true) → x ∈ l → ixA l x = l.countP (befB c x)
  | [], _, _, h => by cases h
  | a :: r, hn, hp, h => by
    rw [List.nodup_cons] at hn
    rw [List.pairwise_cons] at hp
    by_cases e : a = x
    · subst e
      have h0 : (a :: r).countP (befB c a) = 0 := by
        rw [List.countP_eq_zero]
        intro y hy g
        unfold befB at g
        rw [Bool.and_eq_true, decide_eq_true_eq] at g
        rcases List.mem_cons.mp hy with z | z
        · exact g.2 z
        · exact g.2 (kLe_anti g.1 (hp.1 y z))
      rw [h0]
      unfold ixA
      rw [List.findIdx_cons]
      simp
    · have hx : x ∈ r := (List.mem_cons.mp h).resolve_left fun z => e z.symm
      have ih := ix_count c x r hn.2 hp.2 hx
      have hb : befB c x a = true := by
        unfold befB
        rw [Bool.and_eq_true, decide_eq_true_eq]
        exact ⟨hp.1 x hx, e⟩
      rw [List.countP_cons_of_pos hb, ← ih]
      unfold ixA
      rw [List.findIdx_cons]
      have : (a == x) = false := by simpa using e
      rw [this]
      rfl
/-- leastF, by counting -/
def leastG (b : Int) (c : List Int) : List Int := c.map fun x => if b < x then b + 1 + (((ddI (c.filter (upB b))).countP (befB c x) : Nat) : Int) else x
theorem least_eq (b : Int) (c : List Int) : leastF b c = leastG b c := by
  unfold leastF leastG
  refine List.map_congr_left fun x hx => ?_
  by_cases h : b < x
  · have hm : x ∈ rankF b c := rank_mem.mpr ⟨hx, h⟩
    rw [if_pos hm, if_pos h, ix_count c x _ (rank_nodup b c) (rank_pair b c) hm, (rank_perm b c).countP_eq]
  · rw [if_neg fun z => h (rank_mem.mp z).2, if_neg h]
/-! ### all small cases -/
def lexB : List Int → List Int → Bool
  | [], _ => true
  | _ :: _, [] => false
  | x :: r, y :: t => decide (x < y) || (decide (x = y) && lexB r t)
theorem lexB_le : ∀ {a b : List Int}, lexB a b = true → a ≤ b
  | [], b, _ => by simp
  | x :: r, [], h => by cases h
  | x :: r, y :: t, h => by
    unfold lexB at h
    rw [Bool.or_eq_true, Bool.and_eq_true, decide_eq_true_eq, decide_eq_true_eq] at h
    rcases h with h | ⟨h1, h2⟩
    · exact List.le_of_lt (List.Lex.rel h)
    · subst h1
      exact List.cons_le_cons_iff.mpr (.inr ⟨rfl, lexB_le h2⟩)
def leqB (p q : List Int) : Bool := decide (p.sum < q.sum) || (decide (p.sum = q.sum) && lexB p q)
theorem leqB_le {p q : List Int} (h : leqB p q = true) : pLe (p.sum, p) (q.sum, q) = true := by
  unfold leqB at h
  rw [Bool.or_eq_true, Bool.and_eq_true, decide_eq_true_eq, decide_eq_true_eq] at h
  refine decide_eq_true ?_
  rcases h with h | ⟨h1, h2⟩
  · exact .inl h
  · exact .inr ⟨h1, lexB_le h2⟩
def okR (b : Int) (r : List Int) : Bool := leqB (leastG b (runA b [] r)) r
def okC (b : Int) (m : Nat) (c : List Int) : Bool := decide (runA b [] (leastG b c) = c) && ((leastG b c).all fun x => decide (1 ≤ x) && decide (x ≤ b + (m : Int)))
def okBM (b : Int) (m : Nat) : Bool := (rowsT (b + m).toNat m).all (okR b) && (rowsA b m).all (okC b m)

end Q

set_option Elab.async false
set_option linter.all false
set_option maxRecDepth 100000
set_option maxHeartbeats 4000000
namespace Q
open PySem PySem.Spec PyProof.Rows L2 DL
theorem ok_all : ∀ (b m : Nat), 1 ≤ b → b ≤ 3 → m ≤ 4 → okBM b m = true := by
  have h : ((List.range 3).all fun b => (List.range 5).all fun m => okBM ((b + 1 : Nat) : Int) m) = true := by decide +kernel
  intro b m h1 h2 h3
  rw [List.all_eq_true] at h
  have h4 := h (b - 1) (List.mem_range.mpr (by omega))
  rw [List.all_eq_true] at h4
  have h5 := h4 m (List.mem_range.mpr (by omega))
  rw [show b - 1 + 1 = b by omega] at h5
  exact h5
theorem mem_rowsT (t : Nat) : ∀ (k : Nat) (r : List Int), r.length = k → (∀ x, x ∈ r → 1 ≤ x ∧ x ≤ t) → r ∈ rowsT t k
  | 0, r, h, _ => by
    rw [List.length_eq_zero_iff.mp h]
    simp [rowsT]
  | k + 1, r, h, hx => by
    have hne : r ≠ [] := fun z => by rw [z] at h; cases h
    rw [rowsT, List.mem_flatMap]
    refine ⟨r.dropLast, mem_rowsT t k _ (by rw [List.length_dropLast]; omega) fun x m => hx x (List.dropLast_subset r m), ?_⟩
    unfold nextR
    rw [List.mem_map]
    have hl := hx _ (List.getLast_mem hne)
    refine ⟨(r.getLast hne - 1).toNat, List.mem_range.mpr (by omega), ?_⟩
    rw [show 1 + (((r.getLast hne - 1).toNat : Nat) : Int) = r.getLast hne by omega]
    exact List.dropLast_concat_getLast hne
theorem pLe_anti {p q : List Int} (h1 : pLe (p.sum, p) (q.sum, q) = true) (h2 : pLe (q.sum, q) (p.sum, p) = true) : p = q := by
  unfold pLe at h1 h2
  have a := of_decide_eq_true h1
  have b := of_decide_eq_true h2
  dsimp only at a b
  rcases a with a | ⟨a1, a2⟩
  · rcases b with b | ⟨b1, _⟩ <;> omega
  · rcases b with b | ⟨_, b2⟩
    · omega
    · exact List.le_antisymm a2 b2
theorem head_least {l : List (List Int)} {L : List Int} (hp : l.Pairwise fun r r' => pLe (r.sum, r) (r'.sum, r') = true) (hL : L ∈ l) (hm : ∀ r, r ∈ l → pLe (L.sum, L) (r.sum, r) = true) : ∃ t, l = L :: t := by
  cases l with
  | nil => cases hL
  | cons h t =>
    rw [List.pairwise_cons] at hp
    rcases List.mem_cons.mp hL with e | e
    · exact ⟨t, by rw [e]⟩
    · have := pLe_anti (hp.1 L e) (hm h List.mem_cons_self)
      exact ⟨t, by rw [this]⟩
theorem pLe_trans (p q r : Int × List Int) (h1 : pLe p q = true) (h2 : pLe q r = true) : pLe p r = true := by
  unfold pLe at h1 h2 ⊢
  have a := of_decide_eq_true h1
  have b := of_decide_eq_true h2
  refine decide_eq_true ?_
  rcases a with a | ⟨a1, a2⟩
  · rcases b with b | ⟨b1, _⟩
    · exact .inl (by omega)
    · exact .inl (by omega)
  · rcases b with b | ⟨b1, b2⟩
    · exact .inl (by omega)
    · exact .inr ⟨by omega, List.le_trans a2 b2⟩
theorem pLe_total (p q : Int × List Int) : (pLe p q || pLe q p) = true := by
  unfold pLe
  rw [Bool.or_eq_true, decide_eq_true_eq, decide_eq_true_eq]
  rcases Int.lt_trichotomy p.1 q.1 with h | h | h
  · exact .inl (.inl h)
  · rcases List.le_total p.2 q.2 with g | g
    · exact .inl (.inr ⟨h, g⟩)
    · exact .inr (.inr ⟨h.symm, g⟩)
  · exact .inr (.inl h)
theorem sortedR_mem {t k : Nat} {r : List Int} : r ∈ sortedR t k ↔ r ∈ rowsT t k := by
  unfold sortedR
  rw [List.mem_map]
  constructor
  · rintro ⟨p, hp, rfl⟩
    rw [(List.mergeSort_perm _ _).mem_iff, List.mem_map] at hp
    obtain ⟨r, hr, rfl⟩ := hp
    exact hr
  · intro h
    exact ⟨(r.sum, r), (List.mergeSort_perm _ _).mem_iff.mpr (List.mem_map.mpr ⟨r, h, rfl⟩), rfl⟩
theorem sortedR_pair (t k : Nat) : (sortedR t k).Pairwise fun r r' => pLe (r.sum, r) (r'.sum, r') = true := by
  unfold sortedR
  rw [List.pairwise_map]
  refine (List.pairwise_mergeSort pLe_trans pLe_total _).imp_of_mem fun {p q} hp hq h => ?_
  rw [(List.mergeSort_perm _ _).mem_iff, List.mem_map] at hp hq
  obtain ⟨r, _, rfl⟩ := hp
  obtain ⟨r', _, rfl⟩ := hq
  exact h
/-- the good rows begin with the least one -/
theorem good_head {b m : Nat} (h1 : 1 ≤ b) (h2 : b ≤ 3) (h3 : m ≤ 4) {c : List Int} (hc : c ∈ rowsA b m) : ∃ t, (sortedR (b + m) m).filter (fun r => decide (runA b [] r = c)) = leastF b c :: t := by
  have hk := ok_all b m h1 h2 h3
  unfold okBM at hk
  rw [Bool.and_eq_true, List.all_eq_true, List.all_eq_true, show ((b : Int) + (m : Int)).toNat = b + m by omega] at hk
  obtain ⟨k1, k2⟩ := hk
  have hc2 := k2 c hc
  unfold okC at hc2
  rw [Bool.and_eq_true, decide_eq_true_eq, List.all_eq_true] at hc2
  rw [least_eq]
  have hcl := (rows_max hc).2.2
  have hlen : (leastG b c).length = m := by
    unfold leastG
    rw [List.length_map]
    exact hcl
  have hin : leastG b c ∈ rowsT (b + m) m := mem_rowsT _ _ _ hlen fun x hx => by
    have := hc2.2 x hx
    rw [Bool.and_eq_true, decide_eq_true_eq, decide_eq_true_eq] at this
    exact ⟨this.1, by have := this.2; omega⟩
  refine head_least ((sortedR_pair _ _).filter _) (List.mem_filter.mpr ⟨sortedR_mem.mpr hin, decide_eq_true hc2.1⟩) fun r hr => ?_
  rw [List.mem_filter, decide_eq_true_eq] at hr
  have hq := k1 r (sortedR_mem.mp hr.1)
  unfold okR at hq
  rw [hr.2] at hq
  exact leqB_le hq
theorem least_case {b m : Nat} (h1 : 1 ≤ b) (h2 : b ≤ 3) (h3 : m ≤ 4) {c : List Int} (hc : c ∈ rowsA b m) : runA b [] (leastF b c) = c ∧ ∀ x, x ∈ leastF b c → 1 ≤ x ∧ x ≤ 1000000 := by
  have hk := ok_all b m h1 h2 h3
  unfold okBM at hk
  rw [Bool.and_eq_true, List.all_eq_true, List.all_eq_true] at hk
  have hc2 := hk.2 c hc
  unfold okC at hc2
  rw [Bool.and_eq_true, decide_eq_true_eq, List.all_eq_true] at hc2
  rw [least_eq]
  refine ⟨hc2.1, fun x hx => ?_⟩
  have := hc2.2 x hx
  rw [Bool.and_eq_true, decide_eq_true_eq, decide_eq_true_eq] at this
  exact ⟨this.1, by have := this.2; omega⟩

end Q

set_option Elab.async false
set_option linter.all false
set_option maxRecDepth 100000
set_option maxHeartbeats 4000000
namespace Q
open PySem PySem.Spec PyProof.Rows L2 DL
theorem run_bound {b : Int} : ∀ {r a : List Int} {y : Int}, 0 ≤ b → b ≤ 4 → (∀ x, x ∈ r → 1 ≤ x ∧ x ≤ 1000000) → a.length + r.length ≤ 100 → y ∈ runA b a r → 1 ≤ y ∧ y ≤ 1000000
  | x :: r, a, y, hb, hb4, hx, hl, hy => by
    have h1 := hx x List.mem_cons_self
    rw [List.length_cons] at hl
    rcases List.mem_cons.mp hy with rfl | hy
    · unfold codeA
      split
      · exact h1
      · have := ixA_lt (step_mem (b := b) (a := a) (x := x) (by omega))
        have := @step_len b x a
        omega
    · have := @step_len b x a
      exact run_bound (a := stepA b a x) hb hb4 (fun z hz => hx z (List.mem_cons_of_mem _ hz)) (by omega) hy
theorem pln_ints (n : Nat) (a : List Int) (hl : a.length ≤ 100) (h : ∀ x, x ∈ a → 1 ≤ x ∧ x ≤ 1000000) : plnB (n + 2) (.tup (a.map D.int)) ∧ plnB (n + 2) (.lst (a.map D.int)) := by
  have hs : (a.map D.int).length ≤ sizeLine := by
    rw [List.length_map]
    have : sizeLine = 16777216 := rfl
    omega
  have hx : ∀ x, x ∈ a.map D.int → plnB (n + 1) x := by
    intro x hx
    obtain ⟨z, hz, rfl⟩ := List.mem_map.mp hx
    have := h z hz
    exact pln_int n z (by omega)
  exact ⟨⟨hs, hx⟩, ⟨hs, hx⟩⟩

theorem fixed_ok (c : List Int) (b : Int) (r : List Int) (h : decide (leastG b c = r) = true) : leastF b c = r := by
  rw [least_eq]
  exact of_decide_eq_true h
theorem mulL2 (x : D) : mulLD (.lst [x]) (.int 2) = some (.lst [x, x]) := by
  unfold mulLD
  dsimp only
  rw [if_pos ⟨by decide, by decide, by show 1 * 2 ≤ sizeLine; rw [sizeLine_eq]; decide⟩]
  rfl
theorem ix0 (x : D) (xs : List D) : ixD (.lst (x :: xs)) (.int 0) = some x := by
  have := atI_ok (xs := x :: xs) (i := 0) (x := x) rfl
  exact this
theorem law_ok (ns : List Int) (hl : ns.length ≤ 63) : ∃ ρ' s', b_law (.no :: .d .feed :: List.replicate 7 .no) (fs1 ns) = .ok (.rt (.bl true), ρ') s' := by
  have hsz : sizeLine = 16777216 := rfl
  have key : Rm (b_law (.no :: .d .feed :: List.replicate 7 .no)) (fs1 ns) (fun p _ => p.1 = .rt (.bl true)) := by
    unfold b_law
    show Rm (gSeq _ _ [.no, .d .feed, .no, .no, .no, .no, .no, .no, .no]) _ _
    walk_at "rm"
    refine Rm.loop (fun xs ρ s' => ∃ (e2 e3 e4 e5 e6 e7 e8 : EV), ρ = [.no, .d .feed, e2, e3, e4, e5, e6, e7, e8] ∧ s'.Ok) ⟨_, _, _, _, _, _, _, rfl, fs1_ok ns⟩ ?_ ?_
    · rintro x xs ρ s' ⟨e2, e3, e4, e5, e6, e7, e8, rfl, ok⟩
      refine ⟨_, rfl, ?_⟩
      show Rm _ _ _
      walk_at "rm"
      refine Rm.draw (by decide) (by decide) ok fun km s1 ok1 km0 km5 => ?_
      walk_at "rm"
      refine Rm.draw (by decide) (by decide) ok1 fun kb s2 ok2 kb0 kb3 => ?_
      walk_at "rm"
      obtain ⟨m, rfl⟩ : ∃ m : Nat, km = (m : Int) := ⟨km.toNat, by omega⟩
      obtain ⟨b, hb⟩ : ∃ b : Nat, 1 + kb = (b : Int) := ⟨(1 + kb).toNat, by omega⟩
      rw [hb]
      have hb1 : 1 ≤ b := by omega
      have hb3 : b ≤ 3 := by omega
      have hm4 : m ≤ 4 := by omega
      obtain ⟨c0, hc0⟩ : ∃ c, c ∈ rowsA b m := ⟨_, by
        have := run_rows b (List.replicate m 1) [] [] 0 (by show (b : Int) = b + 0; omega) (fun x hx => by rw [(List.mem_replicate.mp hx).2]; decide) (by omega) (by simp [rowsA])
        rwa [List.length_replicate, Nat.zero_add] at this⟩
      have hmany := rows_many (b := b) (by omega) (by omega) hm4
      have h9 : 9 ^ m ≤ 9 ^ 4 := Nat.pow_le_pow_right (by decide) hm4
      have h94 : 9 ^ 4 = 6561 := by decide
      refine Rm.eq (cases_ok m b s2 (by omega) (by omega) hm4) ?_
      refine Rm.lnil ?_
      refine of_ok (by rw [List.length_map]; exact List.length_pos_of_mem hc0) (by rw [List.length_map]; omega) ok2 fun y s3 hy ok3 => ?_
      obtain ⟨c, hc, rfl⟩ := List.mem_map.mp hy
      obtain ⟨hcb, hcb2, hcl⟩ := rows_max hc
      obtain ⟨g, hg⟩ := good_head hb1 hb3 hm4 hc
      obtain ⟨lc1, lc2⟩ := least_case hb1 hb3 hm4 hc
      have hlen : (leastF b c).length = m := by
        unfold leastF
        rw [List.length_map]
        exact hcl
      show Rm (seqK _ (.nx, [.no, .d .feed, .d x, .d (.int m), .d (.int b), .d (tI c), e6, e7, e8])) s3 _
      refine Rm.seqNx ?_
      refine Rm.seq1 (ρ' := [.no, .d .feed, .d x, .d (.int m), .d (.int b), .d (tI c), .ol ((leastF b c :: g).map tI), e7, e8]) ?_ ?_
      · walk_at "rm"
        rw [show ((b : Int) + (m : Int)) = ((b + m : Nat) : Int) by omega]
        refine Rm.eq (rows_ok m (b + m) s3 hm4 (by omega)) ?_
        have hrl : (sortedR (b + m) m).length ≤ 2401 := by
          unfold sortedR
          rw [List.length_map, List.length_mergeSort, List.length_map, rowsT_len]
          have h1 : (b + m) ^ m ≤ 7 ^ m := Nat.pow_le_pow_left (by omega) m
          have h2 : 7 ^ m ≤ 7 ^ 4 := Nat.pow_le_pow_right (by decide) hm4
          exact Nat.le_trans h1 (Nat.le_trans h2 (by decide))
        walk_at "rm"
        refine ⟨by rw [List.length_map]; omega, Rm.eq (lcE_filter (fun x => match x with | .tup cs => decide (runA b [] ((intsD cs).getD []) = c) | _ => false) (fun x => x) fun x hx => ?_) ?_⟩
        · obtain ⟨r, hr, rfl⟩ := List.mem_map.mp hx
          have hrm := rowsT_mem (sortedR_mem.mp hr)
          have hcase := case_ok r b s3 (by omega)
          refine ⟨_, rfl, Rm.det ?_, fun _ => Rm.det ?_⟩
          · walk_at "rm"
            refine Rm.eq hcase ?_
            walk_at "rm"
            refine Rm.lift (eq_tI (runA b [] r) c) ?_
            walk_at "rm"
            refine ⟨?_, rfl⟩
            show decide (runA b [] r = c) = decide (runA b [] ((intsD (r.map .int)).getD []) = c)
            rw [intsD_map]
            rfl
          · walk_at "rm"
            exact ⟨rfl, rfl⟩
        · have e1 : (((sortedR (b + m) m).map tI).filter (fun x => match x with | .tup cs => decide (runA b [] ((intsD cs).getD []) = c) | _ => false)).map (fun x => x) = (leastF b c :: g).map tI := by
            rw [List.map_id', List.filter_map, ← hg]
            congr 1
            refine List.filter_congr fun r _ => ?_
            show decide (runA b [] ((intsD (r.map .int)).getD []) = c) = decide (runA b [] r = c)
            rw [intsD_map]
            rfl
          rw [e1]
          exact ⟨rfl, rfl⟩
      have hle : ∀ s, g_least_sizes [tI c, .int b] s = .ok (.lst ((leastF b c).map .int)) s := fun s => least_ok c b s (by omega) (by omega)
      generalize leastF b c = L at hg lc1 lc2 hlen hle ⊢
      have hpl := pln_ints 5 (L) (by omega) lc2
      have hplc := pln_ints 5 c (by omega) fun x hx => by
        rw [← lc1] at hx
        exact run_bound (a := []) (by omega) (by omega) lc2 (by simp; omega) hx
      walk_at "rm"
      refine Rm.eq (hle _) ?_
      walk_at "rm"
      refine Rm.eq (hle _) ?_
      walk_at "rm"
      refine Rm.lift (ix0 (tI L) (g.map tI)) ?_
      walk_at "rm"
      show Rm (g_law_same [.lst [.lst (L.map .int), .lst (L.map .int)], .lst [.lst (L.map .int), .lst (L.map .int)]]) s3 _
      refine Rm.eq (same_ok 8 (.lst [.lst ((L).map .int), .lst ((L).map .int)]) s3 ⟨by rw [hsz]; show 2 ≤ _; decide, fun y hy => ?_⟩) ?_
      · simp only [List.mem_cons, List.not_mem_nil, or_false] at hy
        rcases hy with rfl | rfl
        · exact hpl.2
        · exact hpl.2
      walk_at "rm"
      refine Rm.eq (hle _) ?_
      walk_at "rm"
      refine Rm.eq (case_of_ok (.lst ((L).map D.int)) (L) b s3 (by omega) rfl) ?_
      rw [lc1]
      walk_at "rm"
      refine Rm.eq (same_ok 8 (tI c) s3 (pln_ints 6 c (by omega) fun x hx => by
        rw [← lc1] at hx
        exact run_bound (a := []) (by omega) (by omega) lc2 (by simp; omega) hx).1) ?_
      walk_at "rm"
      exact ⟨_, _, _, _, _, _, _, rfl, ok3⟩
    · rintro ρ s' ⟨e2, e3, e4, e5, e6, e7, e8, rfl, ok⟩
      have l1 : g_least_sizes [.tup (([2, 3, 4, 5, 6, 7] : List Int).map .int), .int 1] s' = .ok (.lst (([2, 3, 4, 5, 6, 7] : List Int).map .int)) s' := by
        have h := least_ok [2, 3, 4, 5, 6, 7] 1 s' (by decide) (by decide)
        rwa [fixed_ok [2, 3, 4, 5, 6, 7] 1 [2, 3, 4, 5, 6, 7] (by decide +kernel)] at h
      have l2 : g_least_sizes [.tup (([2, 3, 3, 4, 4, 4] : List Int).map .int), .int 1] s' = .ok (.lst (([4, 3, 3, 2, 2, 2] : List Int).map .int)) s' := by
        have h := least_ok [2, 3, 3, 4, 4, 4] 1 s' (by decide) (by decide)
        rwa [fixed_ok [2, 3, 3, 4, 4, 4] 1 [4, 3, 3, 2, 2, 2] (by decide +kernel)] at h
      have l3 : g_least_sizes [.tup (([3, 4, 4] : List Int).map .int), .int 2] s' = .ok (.lst (([4, 3, 3] : List Int).map .int)) s' := by
        have h := least_ok [3, 4, 4] 2 s' (by decide) (by decide)
        rwa [fixed_ok [3, 4, 4] 2 [4, 3, 3] (by decide +kernel)] at h
      have l4 : g_least_sizes [.tup (([3, 4] : List Int).map .int), .int 2] s' = .ok (.lst (([3, 4] : List Int).map .int)) s' := by
        have h := least_ok [3, 4] 2 s' (by decide) (by decide)
        rwa [fixed_ok [3, 4] 2 [3, 4] (by decide +kernel)] at h
      walk_at "rm"
      refine Rm.eq l1 ?_
      walk_at "rm"
      refine Rm.eq l2 ?_
      show Rm _ _ _
      walk_at "rm"
      refine Rm.eq (same_ok 8 (.lst [.lst (([2, 3, 4, 5, 6, 7] : List Int).map .int), .lst (([4, 3, 3, 2, 2, 2] : List Int).map .int)]) s' ⟨by rw [hsz]; show 2 ≤ _; decide, fun y hy => ?_⟩) ?_
      · simp only [List.mem_cons, List.not_mem_nil, or_false] at hy
        rcases hy with rfl | rfl
        · exact (pln_ints 5 [2, 3, 4, 5, 6, 7] (by decide) (by decide)).2
        · exact (pln_ints 5 [4, 3, 3, 2, 2, 2] (by decide) (by decide)).2
      walk_at "rm"
      refine Rm.eq l3 ?_
      walk_at "rm"
      refine Rm.eq l4 ?_
      walk_at "rm"
      rfl
  obtain ⟨⟨f, ρ'⟩, s', e, h⟩ := key.out
  have h : f = .rt (.bl true) := h
  subst h
  exact ⟨ρ', s', e⟩

end Q

theorem PySem.Challenge.cw_quietsides_k13_whole_least_sizes_holds : PySem.Challenge.rw_quietsides_k13_whole_least_sizes.Holds :=
  Q.holds_of Q.feed_ok Q.law_ok

