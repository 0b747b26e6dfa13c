import PyProof.Rows.All
import Wide.All
import OpenK.AllK
import Wide.FinOn
import HandS.ForMost
import HandS.Star
import HandS.Exc
import HandS.ExcOwn
import HandS.Flow
import HandS.IsInst
import HandS.Deep
import HandS.Wide
import HandS.RaiseMore
import HandS.TupAny
import HandS.Small
import HandS.WordsExc
import HandS.Walk
import HandS.Zip
import HandS.Style
import HandS.More
import HandS.TupMul
import HandS.SortInts
import HandS.Text
import HandS.Conv
import HandS.Property
import HandS.MakeKw
import HandS.ClsMeth
import HandS.MakeKwOnly
import HandS.Set
import HandS.SetKeys
import HandS.Strs
import HandS.SetBool
import HandS.Comp
import KE.KSortRegAny
import HandS.DictComp
import PySem.Challenge.RW_quietsides_k41_programs_that_take_fronts
set_option Elab.async false
set_option linter.all false
set_option maxRecDepth 100000
set_option maxHeartbeats 2000000
/-! The data layer: values as data, what an expression, a statement, a def computes of them. -/
namespace DL
open PySem PySem.Spec PyProof.Rows L2

/-! ### data -/
inductive D where
  | non | bl (b : Bool) | int (i : Int) | str (x : Str) | feed | opq (v : V)
  | tup (xs : List D) | lst (xs : List D) | dic (kvs : List (Key × D))
  /-- a list of ints that is read alone (a law's script) -/
  | scr (ns : List Int)
  /-- an instance of the module's class of that name, with its attributes; it does not change any more -/
  | ins (cls : Str) (fs : List (Str × D))

/-- the state of a law's feed -/
structure FS where
  cells : List Int
  at_ : Int
  rest : Int
  cnt : Int
  stir : Int

/-- the numbers of a feed's state are in their bounds -/
def FS.Ok (s : FS) : Prop := 0 ≤ s.stir ∧ s.stir < 2147483477 ∧ 0 ≤ s.at_ ∧ 0 ≤ s.rest
/-- where a law's feed stands: its list, the list of its cells, the cells -/
structure FA where
  a : Addr
  c : Addr
  cells : List Int
/-- not the feed -/
def Nfa (fa : Option FA) (b : Addr) : Prop := ∀ φ, fa = some φ → φ.a ≠ b

/-- an exception of an own class, by the class's name, with its fields -/
structure Exc where
  cls : Str
  flds : List (Str × D)

inductive Res (α : Type) where
  | bad
  | ok (a : α) (s : FS)
  | err (e : Exc) (s : FS)

abbrev M (α : Type) := FS → Res α
def Res.bnd {α β : Type} : Res α → (α → FS → Res β) → Res β
  | .bad, _ => .bad
  | .ok a s, f => f a s
  | .err e s, _ => .err e s
def M.bind {α β : Type} (m : M α) (f : α → M β) : M β := fun s => (m s).bnd f
def M.pure {α : Type} (a : α) : M α := fun s => .ok a s
def M.bad {α : Type} : M α := fun _ => .bad
instance : Monad M where
  pure := M.pure
  bind := M.bind
/-- an Option as a computation that touches nothing -/
def M.lift {α : Type} : Option α → M α
  | some a => M.pure a
  | none => M.bad

/-! ### how data stands in a heap -/

mutual
inductive Rep (K : PySem.W.Frag) (fa : Option FA) (F : Hp) : D → V → Prop
  | non : Rep K fa F .non .non
  | bl (b : Bool) : Rep K fa F (.bl b) (.bl b)
  | int (i : Int) : Rep K fa F (.int i) (.int i)
  | str (x : Str) : Rep K fa F (.str x) (.str x)
  | feed (φ : FA) : fa = some φ → Rep K fa F .feed (.ref φ.a)
  | opq (v : V) : Rep K fa F (.opq v) v
  | scr {a : Addr} {ns : List Int} : SqL K F a (ns.map V.int) → Rep K fa F (.scr ns) (.ref a)
  | tup {a : Addr} {xs : List D} {vs : List V} : SqT K F a vs → RepL K fa F xs vs → Rep K fa F (.tup xs) (.ref a)
  | lst {a : Addr} {xs : List D} {vs : List V} : F a = some (.lst vs) → RepL K fa F xs vs → Rep K fa F (.lst xs) (.ref a)
  | dic {a : Addr} {xs : List (Key × D)} {vs : List (Key × V)} : Rd F a (.dK vs) → RepK K fa F xs vs → Rep K fa F (.dic xs) (.ref a)
  | ins {a C dx : Addr} {cls : Str} {xs : List (Str × D)} {vs : List (Str × V)} : F a = some (.ins C dx vs) → PySem.W.nsIn K mainGlobals cls = some (some (.ref C)) → RepF K fa F xs vs → Rep K fa F (.ins cls xs) (.ref a)
inductive RepF (K : PySem.W.Frag) (fa : Option FA) (F : Hp) : List (Str × D) → List (Str × V) → Prop
  | nil : RepF K fa F [] []
  | cons {k : Str} {d : D} {v : V} {ds : List (Str × D)} {vs : List (Str × V)} : Rep K fa F d v → RepF K fa F ds vs → RepF K fa F ((k, d) :: ds) ((k, v) :: vs)
inductive RepL (K : PySem.W.Frag) (fa : Option FA) (F : Hp) : List D → List V → Prop
  | nil : RepL K fa F [] []
  | cons {d : D} {v : V} {ds : List D} {vs : List V} : Rep K fa F d v → RepL K fa F ds vs → RepL K fa F (d :: ds) (v :: vs)
inductive RepK (K : PySem.W.Frag) (fa : Option FA) (F : Hp) : List (Key × D) → List (Key × V) → Prop
  | nil : RepK K fa F [] []
  | cons {k : Key} {d : D} {v : V} {ds : List (Key × D)} {vs : List (Key × V)} : Rep K fa F d v → RepK K fa F ds vs → RepK K fa F ((k, d) :: ds) ((k, v) :: vs)
end

section
variable {K : PySem.W.Frag} {fa : Option FA} {F F' F'' H H' H'' : Hp}
theorem same_seqT {a : Addr} {xs : List V} (e : Same F F') (h : SqT K F a xs) : SqT K F' a xs := by
  rcases h with (h | ⟨o, h⟩) | h
  · exact .inl (.inl (e _ _ h))
  · exact .inl (.inr ⟨o, e _ _ h⟩)
  · exact .inr h
theorem same_rd {a : Addr} {u : HO} (e : Same F F') (h : Rd F a u) : Rd F' a u := by
  rcases h with h | ⟨o, h⟩
  · exact .inl (e _ _ h)
  · exact .inr ⟨o, e _ _ h⟩
mutual
theorem Rep.mono (e : Same F F') : ∀ {d : D} {v : V}, Rep K fa F d v → Rep K fa F' d v
  | _, _, .non => .non
  | _, _, .bl b => .bl b
  | _, _, .int i => .int i
  | _, _, .str x => .str x
  | _, _, .feed a h => .feed a h
  | _, _, .opq v => .opq v
  | _, _, .scr h => .scr (Same.seq e h)
  | _, _, .tup h r => .tup (same_seqT e h) (RepL.mono e r)
  | _, _, .lst h r => .lst (e _ _ h) (RepL.mono e r)
  | _, _, .dic h r => .dic (same_rd e h) (RepK.mono e r)
  | _, _, .ins h c r => .ins (e _ _ h) c (RepF.mono e r)
theorem RepF.mono (e : Same F F') : ∀ {ds : List (Str × D)} {vs : List (Str × V)}, RepF K fa F ds vs → RepF K fa F' ds vs
  | _, _, .nil => .nil
  | _, _, .cons r t => .cons (Rep.mono e r) (RepF.mono e t)
theorem RepL.mono (e : Same F F') : ∀ {ds : List D} {vs : List V}, RepL K fa F ds vs → RepL K fa F' ds vs
  | _, _, .nil => .nil
  | _, _, .cons r t => .cons (Rep.mono e r) (RepL.mono e t)
theorem RepK.mono (e : Same F F') : ∀ {ds : List (Key × D)} {vs : List (Key × V)}, RepK K fa F ds vs → RepK K fa F' ds vs
  | _, _, .nil => .nil
  | _, _, .cons r t => .cons (Rep.mono e r) (RepK.mono e t)
end
theorem RepL.length : ∀ {ds : List D} {vs : List V}, RepL K fa F ds vs → ds.length = vs.length
  | _, _, .nil => rfl
  | _, _, .cons _ t => congrArg (· + 1) (RepL.length t)
theorem RepL.get : ∀ {ds : List D} {vs : List V} {i : Nat} {v : V}, RepL K fa F ds vs → vs[i]? = some v → ∃ d, ds[i]? = some d ∧ Rep K fa F d v
  | _, _, i, _, .nil, h => by simp at h
  | _, _, 0, _, .cons r _, h => by simp at h; subst h; exact ⟨_, rfl, r⟩
  | _, _, i + 1, v, .cons _ t, h => by
    obtain ⟨d, e, r⟩ := RepL.get (i := i) (v := v) t (by simpa using h)
    exact ⟨d, by simpa using e, r⟩
theorem RepL.get' : ∀ {ds : List D} {vs : List V} {i : Nat} {d : D}, RepL K fa F ds vs → ds[i]? = some d → ∃ v, vs[i]? = some v ∧ Rep K fa F d v
  | _, _, i, _, .nil, h => by simp at h
  | _, _, 0, _, .cons r _, h => by simp at h; subst h; exact ⟨_, rfl, r⟩
  | _, _, i + 1, v, .cons _ t, h => by
    obtain ⟨d, e, r⟩ := RepL.get' (i := i) (d := v) t (by simpa using h)
    exact ⟨d, by simpa using e, r⟩
theorem RepL.append : ∀ {ds es : List D} {vs ws : List V}, RepL K fa F ds vs → RepL K fa F es ws → RepL K fa F (ds ++ es) (vs ++ ws)
  | _, _, _, _, .nil, s => s
  | _, _, _, _, .cons r t, s => .cons r (RepL.append t s)
theorem RepL.take : ∀ {ds : List D} {vs : List V} (n : Nat), RepL K fa F ds vs → RepL K fa F (ds.take n) (vs.take n)
  | _, _, 0, _ => .nil
  | _, _, _ + 1, .nil => .nil
  | _, _, n + 1, .cons r t => .cons r (RepL.take n t)
theorem RepL.drop : ∀ {ds : List D} {vs : List V} (n : Nat), RepL K fa F ds vs → RepL K fa F (ds.drop n) (vs.drop n)
  | _, _, 0, r => r
  | _, _, _ + 1, .nil => .nil
  | _, _, n + 1, .cons _ t => RepL.drop n t
theorem RepL.ints : ∀ (ns : List Int), RepL K fa F (ns.map D.int) (ns.map V.int)
  | [] => .nil
  | n :: ns => .cons (.int n) (RepL.ints ns)
theorem RepL.of_ints : ∀ {ns : List Int} {vs : List V}, RepL K fa F (ns.map D.int) vs → vs = ns.map V.int
  | [], _, .nil => rfl
  | n :: ns, _, .cons r t => by
    cases r
    rw [RepL.of_ints t]
    rfl
theorem RepL.of_strs : ∀ {ns : List Str} {vs : List V}, RepL K fa F (ns.map D.str) vs → vs = ns.map V.str
  | [], _, .nil => rfl
  | n :: ns, _, .cons r t => by
    cases r
    rw [RepL.of_strs t]
    rfl
theorem RepL.of_bls : ∀ {ns : List Bool} {vs : List V}, RepL K fa F (ns.map D.bl) vs → vs = ns.map V.bl
  | [], _, .nil => rfl
  | n :: ns, _, .cons r t => by
    cases r
    rw [RepL.of_bls t]
    rfl

/-! ### the state ahead of and behind an expression -/
def FeedOk (K : PySem.W.Frag) (fa : Option FA) (F H : Hp) (s : FS) : Prop :=
  ∀ φ, fa = some φ → F φ.a = none ∧ (s.cells = φ.cells ∧ s.Ok) ∧ H φ.a = some (.lst [.ref φ.c, .int s.at_, .int s.rest, .int s.cnt, .int s.stir]) ∧ F φ.c = some (.lst (φ.cells.map V.int))

structure Ext (fa : Option FA) (F H F' H' : Hp) : Prop where
  ff : Same F F'
  fh : Same F' H'
  hh : ∀ b o, H b = some o → Nfa fa b → H' b = some o
  fr : ∀ b, H b ≠ none → F' b = F b
  al : ∀ b, H b ≠ none → H' b ≠ none
theorem Ext.refl (h : Same F H) : Ext fa F H F H := ⟨Same.refl _, h, fun _ _ e _ => e, fun _ _ => rfl, fun _ e => e⟩
theorem Ext.trans (a : Ext fa F H F' H') (b : Ext fa F' H' F'' H'') : Ext fa F H F'' H'' :=
  ⟨a.ff.trans b.ff, b.fh, fun c o e n => b.hh c o (a.hh c o e n) n, fun c e => (b.fr c (a.al c e)).trans (a.fr c e), fun c e => b.al c (a.al c e)⟩
/-- a new object is laid -/
theorem Ext.new {p : Addr} {o : HO} (h : Same F H) (hp : H p = none) : Ext fa F H (upd F p o) (upd H p o) := by
  have fp : F p = none := h.free hp
  refine ⟨fun b u e => ?_, fun b u e => ?_, fun b u e _ => ?_, fun b e => ?_, fun b e => ?_⟩
  · rw [upd_ne (ne_of_none e fp)]; exact e
  · by_cases hb : b = p
    · subst hb; rw [upd_same] at e ⊢; exact e
    · rw [upd_ne hb] at e ⊢; exact h b u e
  · rw [upd_ne (ne_of_none e hp)]; exact e
  · have : b ≠ p := fun z => e (z ▸ hp)
    rw [upd_ne this]
  · have : b ≠ p := fun z => e (z ▸ hp)
    rw [upd_ne this]; exact e
theorem FeedOk.ext_same {s : FS} (x : FeedOk K fa F H s) (ff : Same F F') (hh : ∀ b o, H b = some o → H' b = some o) (fr : ∀ b, H b ≠ none → F' b = F b) : FeedOk K fa F' H' s := fun φ e => by
  obtain ⟨h1, h0, h2, h3⟩ := x φ e
  exact ⟨(fr φ.a (by rw [h2]; simp)).trans h1, h0, hh _ _ h2, ff _ _ h3⟩
theorem FeedOk.new {s : FS} {p : Addr} {o : HO} (x : FeedOk K fa F H s) (h : Same F H) (hp : H p = none) : FeedOk K fa (upd F p o) (upd H p o) s := by
  have e : Ext fa F H (upd F p o) (upd H p o) := Ext.new h hp
  refine x.ext_same e.ff (fun b u q => ?_) e.fr
  rw [upd_ne (ne_of_none q hp)]; exact q
end

/-! ### the environment of an expression -/
abbrev Env' := List (Option D)
structure EnvOk (K : PySem.W.Frag) (fa : Option FA) (F : Hp) (σ : L2.St) (ρ : Env') : Prop where
  len : ρ.length ≤ σ.length
  at_ : ∀ (i : Nat) (d : D), ρ[i]? = some (some d) → ∃ v, σ[i]? = some (some v) ∧ Rep K fa F d v
theorem EnvOk.mono {K : PySem.W.Frag} {fa : Option FA} {F F' : Hp} {σ : L2.St} {ρ : Env'} (x : EnvOk K fa F σ ρ) (e : Same F F') : EnvOk K fa F' σ ρ := ⟨x.len, fun i d h => by
  obtain ⟨v, h1, h2⟩ := x.at_ i d h
  exact ⟨v, h1, h2.mono e⟩⟩
theorem EnvOk.set {K : PySem.W.Frag} {fa : Option FA} {F : Hp} {σ : L2.St} {ρ : Env'} {i : Nat} {d : D} {v : V} (x : EnvOk K fa F σ ρ) (r : Rep K fa F d v) : EnvOk K fa F (σ.set i (some v)) (ρ.set i (some d)) := ⟨by simpa using x.len, fun j e h => by
  by_cases hj : i = j
  · subst hj
    by_cases hl : i < ρ.length
    · rw [List.getElem?_set_self hl] at h
      cases h
      exact ⟨v, by rw [List.getElem?_set_self (Nat.lt_of_lt_of_le hl x.len)], r⟩
    · rw [List.getElem?_eq_none (by simpa using hl)] at h
      cases h
  · rw [List.getElem?_set_ne hj] at h
    obtain ⟨w, h1, h2⟩ := x.at_ j e h
    exact ⟨w, by rw [List.getElem?_set_ne hj]; exact h1, h2⟩⟩

/-- what an exception is like in a heap -/
def RepX (K : PySem.W.Frag) (mg : Str → Option Value) (fa : Option FA) (F H : Hp) (e : Exc) (cls : Value) (dd : Option Addr) : Prop :=
  mg e.cls = some cls ∧ ∃ d fs, dd = some d ∧ H d = some (.xd fs) ∧ ∀ f x, e.flds.lookup f = some x → ∃ v, fs.lookup f = some v ∧ Rep K fa F x v

/-- a computation's outcome r is what is wanted: Q of its value, W of its exception -/
def GoodK (K : PySem.W.Frag) (mg : Str → Option Value) (fa : Option FA) (W : XK) (F H : Hp) (r : Res D) (Q : VK) : Prop :=
  match r with
  | .bad => False
  | .ok d s' => ∀ v F' H', Ext fa F H F' H' → FeedOk K fa F' H' s' → Rep K fa F' d v → Q v H'
  | .err e s' => ∀ cls dd F' H', Ext fa F H F' H' → FeedOk K fa F' H' s' → RepX K mg fa F' H' e cls dd → W cls dd H'
abbrev Good (X : Cx) (fa : Option FA) (W : XK) (F H : Hp) (r : Res D) (Q : VK) : Prop := GoodK X.K X.mg fa W F H r Q

/-- t does what f says -/
def TOk (X : Cx) (fa : Option FA) (W : L2.St → XK) (t : TE) (f : Env' → M D) : Prop :=
  ∀ (σ : L2.St) (F H : Hp) (ρ : Env') (s : FS) (Q : VK), Same F H → FeedOk X.K fa F H s → EnvOk X.K fa F σ ρ → Good X fa (W σ) F H (f ρ s) Q → t σ H Q
/-- AN EXPRESSION COMPUTES f -/
def ED (X : Cx) (fa : Option FA) (W : L2.St → XK) (e : Expr) (f : Env' → M D) : Prop := ∃ t, PE X e t ∧ TOk X fa W t f

/-- the same of lists (arguments) -/
def GoodL (X : Cx) (fa : Option FA) (W : XK) (F H : Hp) (r : Res (List D)) (Q : List V → Hp → Prop) : Prop :=
  match r with
  | .bad => False
  | .ok d s' => ∀ v F' H', Ext fa F H F' H' → FeedOk X.K fa F' H' s' → RepL X.K fa F' d v → Q v H'
  | .err e s' => ∀ cls dd F' H', Ext fa F H F' H' → FeedOk X.K fa F' H' s' → RepX X.K X.mg fa F' H' e cls dd → W cls dd H'
def TLOk (X : Cx) (fa : Option FA) (W : L2.St → XK) (t : TA) (f : Env' → M (List D)) : Prop :=
  ∀ (σ : L2.St) (F H : Hp) (ρ : Env') (s : FS) (Q : List V → Hp → Prop), Same F H → FeedOk X.K fa F H s → EnvOk X.K fa F σ ρ → GoodL X fa (W σ) F H (f ρ s) Q → t σ H Q
def LD (X : Cx) (fa : Option FA) (W : L2.St → XK) (es : List Expr) (f : Env' → M (List D)) : Prop := ∃ t, PA X es t ∧ TLOk X fa W t f

/-- a test -/
def GoodB (X : Cx) (fa : Option FA) (W : XK) (F H : Hp) (r : Res Bool) (Q : Bool → Hp → Prop) : Prop :=
  match r with
  | .bad => False
  | .ok d s' => ∀ F' H', Ext fa F H F' H' → FeedOk X.K fa F' H' s' → Q d H'
  | .err e s' => ∀ cls dd F' H', Ext fa F H F' H' → FeedOk X.K fa F' H' s' → RepX X.K X.mg fa F' H' e cls dd → W cls dd H'
def TTOk (X : Cx) (fa : Option FA) (W : L2.St → XK) (t : TT) (f : Env' → M Bool) : Prop :=
  ∀ (σ : L2.St) (F H : Hp) (ρ : Env') (s : FS) (Q : Bool → Hp → Prop), Same F H → FeedOk X.K fa F H s → EnvOk X.K fa F σ ρ → GoodB X fa (W σ) F H (f ρ s) Q → t σ H Q
def TD (X : Cx) (fa : Option FA) (W : L2.St → XK) (e : Expr) (f : Env' → M Bool) : Prop := ∃ t, PT X e t ∧ TTOk X fa W t f
def TWD (X : Cx) (fa : Option FA) (W : L2.St → XK) (e : Expr) (f : Env' → M Bool) : Prop := ∃ t, PW X e t ∧ TTOk X fa W t f

/-- what may be wanted of a computation's outcome: nothing bad, an exception as W says, and it stays wanted in later heaps -/
structure Tgt (X : Cx) (fa : Option FA) (W : XK) {β : Type} (G : Hp → Hp → Res β → Prop) : Prop where
  bad : ∀ F H, ¬ G F H .bad
  err : ∀ F H e s, G F H (.err e s) → ∀ cls dd F' H', Ext fa F H F' H' → FeedOk X.K fa F' H' s → RepX X.K X.mg fa F' H' e cls dd → W cls dd H'
  ext : ∀ F H F' H' r, Ext fa F H F' H' → G F H r → G F' H' r

section
variable {X : Cx} {fa : Option FA} {W : XK} {F H F' H' : Hp}
theorem Good.tgt {Q : VK} : Tgt X fa W (fun F H (r : Res D) => Good X fa W F H r Q) := by
  refine ⟨fun _ _ h => h, fun _ _ _ _ h => h, fun F H F' H' r e h => ?_⟩
  cases r with
  | bad => exact h
  | ok d s => exact fun v F2 H2 e2 => h v F2 H2 (e.trans e2)
  | err x s => exact fun c dd F2 H2 e2 => h c dd F2 H2 (e.trans e2)
theorem GoodL.tgt {Q : List V → Hp → Prop} : Tgt X fa W (fun F H (r : Res (List D)) => GoodL X fa W F H r Q) := by
  refine ⟨fun _ _ h => h, fun _ _ _ _ h => h, fun F H F' H' r e h => ?_⟩
  cases r with
  | bad => exact h
  | ok d s => exact fun v F2 H2 e2 => h v F2 H2 (e.trans e2)
  | err x s => exact fun c dd F2 H2 e2 => h c dd F2 H2 (e.trans e2)
theorem GoodB.tgt {Q : Bool → Hp → Prop} : Tgt X fa W (fun F H (r : Res Bool) => GoodB X fa W F H r Q) := by
  refine ⟨fun _ _ h => h, fun _ _ _ _ h => h, fun F H F' H' r e h => ?_⟩
  cases r with
  | bad => exact h
  | ok d s => exact fun F2 H2 e2 => h F2 H2 (e.trans e2)
  | err x s => exact fun c dd F2 H2 e2 => h c dd F2 H2 (e.trans e2)
theorem Tgt.of_ext {β : Type} {G : Hp → Hp → Res β → Prop} (T : Tgt X fa W G) {r : Res β} (e : Ext fa F H F' H') (h : G F H r) : G F' H' r := T.ext F H F' H' r e h

variable {Wσ : L2.St → XK} {σ : L2.St} {ρ : Env'} {s : FS} {β : Type} {G : Hp → Hp → Res β → Prop}
/-- run the first part: t for its f, then the rest g for what comes -/
theorem TOk.then {t : TE} {f : Env' → M D} {g : D → M β} {Q' : VK} (ht : TOk X fa Wσ t f) (T : Tgt X fa (Wσ σ) G) (h1 : Same F H) (h2 : FeedOk X.K fa F H s) (h3 : EnvOk X.K fa F σ ρ)
    (hg : G F H ((f ρ s).bnd g))
    (k : ∀ d s' v F' H', Ext fa F H F' H' → FeedOk X.K fa F' H' s' → Rep X.K fa F' d v → EnvOk X.K fa F' σ ρ → G F' H' (g d s') → Q' v H') : t σ H Q' := by
  refine ht σ F H ρ s Q' h1 h2 h3 ?_
  generalize f ρ s = r at hg
  cases r with
  | bad => exact absurd hg (T.bad F H)
  | err e s' => exact T.err F H e s' hg
  | ok d s' => exact fun v F' H' e fo r => k d s' v F' H' e fo r (h3.mono e.ff) (T.of_ext e hg)
theorem TLOk.then {t : TA} {f : Env' → M (List D)} {g : List D → M β} {Q' : List V → Hp → Prop} (ht : TLOk X fa Wσ t f) (T : Tgt X fa (Wσ σ) G) (h1 : Same F H) (h2 : FeedOk X.K fa F H s) (h3 : EnvOk X.K fa F σ ρ)
    (hg : G F H ((f ρ s).bnd g))
    (k : ∀ d s' v F' H', Ext fa F H F' H' → FeedOk X.K fa F' H' s' → RepL X.K fa F' d v → EnvOk X.K fa F' σ ρ → G F' H' (g d s') → Q' v H') : t σ H Q' := by
  refine ht σ F H ρ s Q' h1 h2 h3 ?_
  generalize f ρ s = r at hg
  cases r with
  | bad => exact absurd hg (T.bad F H)
  | err e s' => exact T.err F H e s' hg
  | ok d s' => exact fun v F' H' e fo r => k d s' v F' H' e fo r (h3.mono e.ff) (T.of_ext e hg)
theorem TTOk.then {t : TT} {f : Env' → M Bool} {g : Bool → M β} {Q' : Bool → Hp → Prop} (ht : TTOk X fa Wσ t f) (T : Tgt X fa (Wσ σ) G) (h1 : Same F H) (h2 : FeedOk X.K fa F H s) (h3 : EnvOk X.K fa F σ ρ)
    (hg : G F H ((f ρ s).bnd g))
    (k : ∀ d s' F' H', Ext fa F H F' H' → FeedOk X.K fa F' H' s' → EnvOk X.K fa F' σ ρ → G F' H' (g d s') → Q' d H') : t σ H Q' := by
  refine ht σ F H ρ s Q' h1 h2 h3 ?_
  generalize f ρ s = r at hg
  cases r with
  | bad => exact absurd hg (T.bad F H)
  | err e s' => exact T.err F H e s' hg
  | ok d s' => exact fun F' H' e fo => k d s' F' H' e fo (h3.mono e.ff) (T.of_ext e hg)
/-- an outcome that is there at once -/
theorem Good.here {d : D} {v : V} {Q : VK} (h1 : Same F H) (h2 : FeedOk X.K fa F H s) (r : Rep X.K fa F d v) (h : Good X fa W F H (.ok d s) Q) : Q v H := h v F H (Ext.refl h1) h2 r
theorem Good.new {d : D} {p : Addr} {o : HO} {Q : VK} (h1 : Same F H) (h2 : FeedOk X.K fa F H s) (hp : H p = none) (r : Rep X.K fa (upd F p o) d (.ref p)) (h : Good X fa W F H (.ok d s) Q) : Q (.ref p) (upd H p o) :=
  h _ _ _ (Ext.new h1 hp) (h2.new h1 hp) r
end
/-! ### rules by values -/
/-- what a computation on values gives: g of their data; it touches nothing but makes new objects -/
def GoodO (X : Cx) (fa : Option FA) (F H : Hp) (s : FS) (o : Option D) (Q : VK) : Prop :=
  match o with
  | none => False
  | some d => ∀ v F' H', Ext fa F H F' H' → FeedOk X.K fa F' H' s → Rep X.K fa F' d v → Q v H'
theorem Good.lift {X : Cx} {fa : Option FA} {W : XK} {F H : Hp} {s : FS} {o : Option D} {Q : VK} (h : Good X fa W F H (M.lift o s) Q) : GoodO X fa F H s o Q := by
  cases o with
  | none => exact h
  | some d => exact h
theorem GoodO.here {X : Cx} {fa : Option FA} {F H : Hp} {s : FS} {d : D} {v : V} {Q : VK} (h1 : Same F H) (h2 : FeedOk X.K fa F H s) (r : Rep X.K fa F d v) (h : GoodO X fa F H s (some d) Q) : Q v H := h v F H (Ext.refl h1) h2 r
theorem GoodO.new {X : Cx} {fa : Option FA} {F H : Hp} {s : FS} {d : D} {p : Addr} {o : HO} {Q : VK} (h1 : Same F H) (h2 : FeedOk X.K fa F H s) (hp : H p = none) (r : Rep X.K fa (upd F p o) d (.ref p)) (h : GoodO X fa F H s (some d) Q) : Q (.ref p) (upd H p o) :=
  h _ _ _ (Ext.new h1 hp) (h2.new h1 hp) r
def OpOk (X : Cx) (fa : Option FA) (r : R2) (g : D → D → Option D) : Prop :=
  ∀ (F H : Hp) (s : FS) (x y : V) (a b : D) (Q : VK), Same F H → FeedOk X.K fa F H s → Rep X.K fa F a x → Rep X.K fa F b y → GoodO X fa F H s (g a b) Q → r x y H Q
def UnOk (X : Cx) (fa : Option FA) (r : V → Hp → VK → Prop) (g : D → Option D) : Prop :=
  ∀ (F H : Hp) (s : FS) (x : V) (a : D) (Q : VK), Same F H → FeedOk X.K fa F H s → Rep X.K fa F a x → GoodO X fa F H s (g a) Q → r x H Q
def CallOk (X : Cx) (fa : Option FA) (r : List V → Hp → VK → Prop) (g : List D → Option D) : Prop :=
  ∀ (F H : Hp) (s : FS) (xs : List V) (as : List D) (Q : VK), Same F H → FeedOk X.K fa F H s → RepL X.K fa F as xs → GoodO X fa F H s (g as) Q → r xs H Q
def MtOk (X : Cx) (fa : Option FA) (r : V → List V → Hp → VK → Prop) (g : D → List D → Option D) : Prop :=
  ∀ (F H : Hp) (s : FS) (x : V) (xs : List V) (a : D) (as : List D) (Q : VK), Same F H → FeedOk X.K fa F H s → Rep X.K fa F a x → RepL X.K fa F as xs → GoodO X fa F H s (g a as) Q → r x xs H Q
end DL

set_option Elab.async false
set_option linter.all false
set_option maxRecDepth 100000
set_option maxHeartbeats 2000000
/-! The data layer: rules for expressions. -/
namespace DL
open PySem PySem.Spec PyProof.Rows L2

/-! ### what is computed -/
def dVar (i : Nat) : Env' → M D := fun ρ => M.lift (ρ[i]?.join)
def dC (d : D) : Env' → M D := fun _ => M.pure d
def dOp (g : D → D → Option D) (f1 f2 : Env' → M D) : Env' → M D := fun ρ => (f1 ρ).bind fun x => (f2 ρ).bind fun y => M.lift (g x y)
def dUn (g : D → Option D) (f1 : Env' → M D) : Env' → M D := fun ρ => (f1 ρ).bind fun x => M.lift (g x)
def lNil : Env' → M (List D) := fun _ => M.pure []
def lCons (f1 : Env' → M D) (f2 : Env' → M (List D)) : Env' → M (List D) := fun ρ => (f1 ρ).bind fun x => (f2 ρ).bind fun xs => M.pure (x :: xs)
def seqD : D → Option (List D)
  | .tup xs => some xs
  | .lst xs => some xs
  | _ => none
def lStar (f1 : Env' → M D) (f2 : Env' → M (List D)) : Env' → M (List D) := fun ρ => (f1 ρ).bind fun x => (M.lift (seqD x)).bind fun xs => (f2 ρ).bind fun ys => M.pure (xs ++ ys)
def mkTup (xs : List D) : Option D := if xs.length ≤ sizeLine then some (.tup xs) else none
def mkLst (xs : List D) : Option D := if xs.length ≤ sizeLine then some (.lst xs) else none
def dFn (g : List D → Option D) (f : Env' → M (List D)) : Env' → M D := fun ρ => (f ρ).bind fun xs => M.lift (g xs)
def dCall (g : List D → M D) (f : Env' → M (List D)) : Env' → M D := fun ρ => (f ρ).bind g
def dMt (g : D → List D → Option D) (f1 : Env' → M D) (f : Env' → M (List D)) : Env' → M D := fun ρ => (f1 ρ).bind fun x => (f ρ).bind fun xs => M.lift (g x xs)
def dIf (c : Env' → M Bool) (f1 f2 : Env' → M D) : Env' → M D := fun ρ => (c ρ).bind fun k => if k = true then f1 ρ else f2 ρ
def truthD : D → Option Bool
  | .non => some false
  | .bl b => some b
  | .int i => some (i != 0)
  | .str y => if y.length ≤ sizeLine then some ((y.length : Int) != 0) else none
  | .tup xs => some (!xs.isEmpty)
  | .lst xs => some (!xs.isEmpty)
  | _ => none
def dAnd (f1 f2 : Env' → M D) : Env' → M D := fun ρ => (f1 ρ).bind fun x => (M.lift (truthD x)).bind fun k => if k = true then f2 ρ else M.pure x
def dOr (f1 f2 : Env' → M D) : Env' → M D := fun ρ => (f1 ρ).bind fun x => (M.lift (truthD x)).bind fun k => if k = true then M.pure x else f2 ρ
def dNot (f1 : Env' → M D) : Env' → M D := fun ρ => (f1 ρ).bind fun x => (M.lift (truthD x)).bind fun k => M.pure (.bl (!k))
def cTru (f1 : Env' → M D) : Env' → M Bool := fun ρ => (f1 ρ).bind fun x => M.lift (truthD x)
def blD : D → Option Bool
  | .bl b => some b
  | _ => none
def cCmp (g : D → D → Option D) (f1 f2 : Env' → M D) : Env' → M Bool := fun ρ => (f1 ρ).bind fun x => (f2 ρ).bind fun y => (M.lift (g x y)).bind fun z => M.lift (blD z)
def dChain (g g' : D → D → Option D) (f1 f2 f3 : Env' → M D) : Env' → M D := fun ρ => (f1 ρ).bind fun x => (f2 ρ).bind fun y => (M.lift (g x y)).bind fun z => (M.lift (blD z)).bind fun k =>
  if k = true then (f3 ρ).bind fun w => M.lift (g' y w) else M.pure (.bl false)
def cChain (g g' : D → D → Option D) (f1 f2 f3 : Env' → M D) : Env' → M Bool := fun ρ => (dChain g g' f1 f2 f3 ρ).bind fun z => M.lift (blD z)
def cNot (c : Env' → M Bool) : Env' → M Bool := fun ρ => (c ρ).bind fun k => M.pure (!k)
def cAnd (c1 c2 : Env' → M Bool) : Env' → M Bool := fun ρ => (c1 ρ).bind fun k => if k = true then c2 ρ else M.pure false
def cOr (c1 c2 : Env' → M Bool) : Env' → M Bool := fun ρ => (c1 ρ).bind fun k => if k = true then M.pure true else c2 ρ

section
variable {X : Cx} {fa : Option FA} {W : L2.St → XK} {a b c e o : Expr} {es rest : List Expr} {pos p apos : Pos} {f1 f2 f3 : Env' → M D} {fl : Env' → M (List D)} {c1 c2 : Env' → M Bool}

theorem tok_var (i : Nat) : TOk X fa W (tVar i) (dVar i) := by
  intro σ F H ρ s Q h1 h2 h3 h
  unfold dVar at h
  cases e : ρ[i]? with
  | none => rw [e] at h; exact h.elim
  | some q =>
    cases q with
    | none => rw [e] at h; exact h.elim
    | some d =>
      rw [e] at h
      obtain ⟨v, hv, r⟩ := h3.at_ i d e
      exact ⟨v, hv, Good.here h1 h2 r h⟩
theorem ed_var (i : Nat) {x : Str} (hN : X.N[i]? = some x := by rfl) (hv : Vis X.env.scope x := by first | exact Or.inl rfl | exact Or.inr (Or.inl rfl) | exact Or.inr (Or.inr rfl)) (hd : (x == ("__debug__" : Str)) = false := by decide) (hcd : (x == ("__classdict__" : Str)) = false := by decide) :
    ED X fa W (.Name x pos) (dVar i) := ⟨_, pe_var hN hv hd hcd, tok_var i⟩
theorem tok_c {v : V} {d : D} (hr : ∀ F, Rep X.K fa F d v) : TOk X fa W (tC v) (dC d) := fun σ F H ρ s Q h1 h2 h3 h => Good.here h1 h2 (hr F) h
theorem ed_int {i : Int} {j : Nat} : ED X fa W (.Constant (.int i) j pos) (dC (.int i)) := ⟨_, pe_int, tok_c fun _ => .int i⟩
theorem ed_bl {i : Bool} {j : Nat} : ED X fa W (.Constant (.bool i) j pos) (dC (.bl i)) := ⟨_, pe_bl, tok_c fun _ => .bl i⟩
theorem ed_non {j : Nat} : ED X fa W (.Constant .none j pos) (dC .non) := ⟨_, pe_non, tok_c fun _ => .non⟩
theorem ed_str {x : Str} {j : Nat} : ED X fa W (.Constant (.str x) j pos) (dC (.str x)) := ⟨_, pe_str, tok_c fun _ => .str x⟩
/-- a module's constant -/
theorem ed_glob {x : Str} {v : V} {u : Value} (d : D) (hr : ∀ F, Rep X.K fa F d v) (hm : X.mg x = some u) (r : RelV v u) (hg : Gl X x := by rfl) (hd : (x == ("__debug__" : Str)) = false := by decide) : ED X fa W (.Name x pos) (dC d) :=
  ⟨_, pe_glob hg hm r hd, tok_c hr⟩
/-- a built-in class as a value -/
theorem ed_ty {x : Str} (n : String) (hm : X.mg x = none) (hv : bootBuiltins x = some (.type n) := by decide +kernel) (hg : Gl X x := by rfl) (hn : x ≠ "__name__" := by decide) (hd : (x == ("__debug__" : Str)) = false := by decide) :
    ED X fa W (.Name x pos) (dC (.opq (.ty n))) := ⟨_, pe_bltn hg hm hv (v := .ty n) rfl hn hd, tok_c fun _ => .opq _⟩

/-! ### operators -/
theorem tok_op {r : R2} {g : D → D → Option D} {ta tb : TE} (ok : OpOk X fa r g) (ha : TOk X fa W ta f1) (hb : TOk X fa W tb f2) : TOk X fa W (tOp r ta tb) (dOp g f1 f2) := by
  intro σ F H ρ s Q h1 h2 h3 h
  refine ha.then Good.tgt h1 h2 h3 h fun x s1 v F1 H1 e1 o1 r1 v1 h' => ?_
  refine hb.then Good.tgt e1.fh o1 v1 h' fun y s2 w F2 H2 e2 o2 r2 v2 h'' => ?_
  exact ok F2 H2 s2 v w x y Q e2.fh o2 (r1.mono e2.ff) r2 (Good.lift h'')
theorem ed_op {op : Operator} {r : R2} {g : D → D → Option D} (ho : OpR X (binaryOp op) r) (ok : OpOk X fa r g) (ha : ED X fa W a f1) (hb : ED X fa W b f2) : ED X fa W (.BinOp a op b pos) (dOp g f1 f2) := by
  obtain ⟨ta, pa, ka⟩ := ha
  obtain ⟨tb, pb, kb⟩ := hb
  exact ⟨_, pe_op ho pa pb, tok_op ok ka kb⟩
theorem ed_un {op : UnaryOp} {r : V → Hp → VK → Prop} {g : D → Option D} (ho : UnR X (unaryOp op) r) (ok : UnOk X fa r g) (ha : ED X fa W a f1) : ED X fa W (.UnaryOp op a pos) (dUn g f1) := by
  obtain ⟨ta, pa, ka⟩ := ha
  refine ⟨_, pe_un ho pa, fun σ F H ρ s Q h1 h2 h3 h => ?_⟩
  refine ka.then Good.tgt h1 h2 h3 h fun x s1 v F1 H1 e1 o1 r1 v1 h' => ?_
  exact ok F1 H1 s1 v x Q e1.fh o1 r1 (Good.lift h')
theorem ed_cmp {op : CmpOp} {r : R2} {g : D → D → Option D} (ho : OpR X (compareOp op) r) (ok : OpOk X fa r g) (ha : ED X fa W a f1) (hb : ED X fa W b f2) (hm : behindInMarks op b = false := by first | exact nomark _ | rfl) :
    ED X fa W (.Compare a [op] [b] pos) (dOp g f1 f2) := by
  obtain ⟨ta, pa, ka⟩ := ha
  obtain ⟨tb, pb, kb⟩ := hb
  exact ⟨_, pe_cmpR ho pa pb hm, tok_op ok ka kb⟩
/-- an outcome that must be a bool -/
theorem goodO_bl {F H : Hp} {W1 : XK} {s : FS} {z : Option D} {Q : Bool → Hp → Prop} (h1 : Same F H) (h2 : FeedOk X.K fa F H s) (h : GoodB X fa W1 F H (((M.lift z).bind fun z => M.lift (blD z)) s) Q) : GoodO X fa F H s z (fun x H' => ∃ k, x = .bl k ∧ Q k H') := by
  cases z with
  | none => exact h
  | some d =>
    cases d with
    | bl k => exact fun v F' H' e o r => by cases r; exact ⟨k, rfl, h F' H' e o⟩
    | _ => exact h.elim
theorem td_cmp {op : CmpOp} {r : R2} {g : D → D → Option D} (ho : OpR X (compareOp op) r) (ok : OpOk X fa r g) (ha : ED X fa W a f1) (hb : ED X fa W b f2) (hm : behindInMarks op b = false := by first | exact nomark _ | rfl) :
    TD X fa W (.Compare a [op] [b] pos) (cCmp g f1 f2) := by
  obtain ⟨ta, pa, ka⟩ := ha
  obtain ⟨tb, pb, kb⟩ := hb
  refine ⟨_, pt_cmpR ho pa pb hm, fun σ F H ρ s Q h1 h2 h3 h => ?_⟩
  refine ka.then GoodB.tgt h1 h2 h3 h fun x s1 v F1 H1 e1 o1 r1 v1 h' => ?_
  refine kb.then GoodB.tgt e1.fh o1 v1 h' fun y s2 w F2 H2 e2 o2 r2 v2 h'' => ?_
  exact ok F2 H2 s2 v w x y _ e2.fh o2 (r1.mono e2.ff) r2 (goodO_bl e2.fh o2 h'')
theorem tok_chain {r r' : R2} {g g' : D → D → Option D} {ta tb tc : TE} (ok : OpOk X fa r g) (ok' : OpOk X fa r' g') (ha : TOk X fa W ta f1) (hb : TOk X fa W tb f2) (hc : TOk X fa W tc f3) : TOk X fa W (tChain r r' ta tb tc) (dChain g g' f1 f2 f3) := by
  intro σ F H ρ s Q h1 h2 h3 h
  refine ha.then Good.tgt h1 h2 h3 h fun x s1 v F1 H1 e1 o1 r1 v1 h' => ?_
  refine hb.then Good.tgt e1.fh o1 v1 h' fun y s2 w F2 H2 e2 o2 r2 v2 h'' => ?_
  refine ok F2 H2 s2 v w x y _ e2.fh o2 (r1.mono e2.ff) r2 ?_
  change Good X fa (W σ) F2 H2 (((M.lift (g x y)).bind _) s2) Q at h''
  cases q : g x y with
  | none => rw [q] at h''; exact h''
  | some z =>
    rw [q] at h''
    cases z with
    | bl k =>
      intro v' F3 H3 e3 o3 r3
      cases r3
      refine ⟨k, rfl, ?_⟩
      have h4 := Good.tgt.of_ext e3 h''
      cases k with
      | true =>
        refine iteT ?_
        refine hc.then Good.tgt e3.fh o3 (v2.mono e3.ff) h4 fun z s3 w3 F4 H4 e4 o4 r4 v4 h5 => ?_
        exact ok' F4 H4 s3 w w3 y z Q e4.fh o4 (r2.mono (e3.ff.trans e4.ff)) r4 (Good.lift h5)
      | false => exact iteF (Good.here e3.fh o3 (.bl false) h4)
    | _ => exact h''.elim
theorem ed_chain {op op' : CmpOp} {r r' : R2} {g g' : D → D → Option D} (ho : OpR X (compareOp op) r) (ok : OpOk X fa r g) (ho' : OpR X (compareOp op') r') (ok' : OpOk X fa r' g') (ha : ED X fa W a f1) (hb : ED X fa W b f2) (hc : ED X fa W c f3)
    (hm : lastMarks [op, op'] [b, c] = false := by with_unfolding_all rfl) : ED X fa W (.Compare a [op, op'] [b, c] pos) (dChain g g' f1 f2 f3) := by
  obtain ⟨ta, pa, ka⟩ := ha
  obtain ⟨tb, pb, kb⟩ := hb
  obtain ⟨tc, pc, kc⟩ := hc
  exact ⟨_, pe_chain ho ho' pa pb pc hm, tok_chain ok ok' ka kb kc⟩
theorem td_chain {op op' : CmpOp} {r r' : R2} {g g' : D → D → Option D} (ho : OpR X (compareOp op) r) (ok : OpOk X fa r g) (ho' : OpR X (compareOp op') r') (ok' : OpOk X fa r' g') (ha : ED X fa W a f1) (hb : ED X fa W b f2) (hc : ED X fa W c f3)
    (hm : lastMarks [op, op'] [b, c] = false := by with_unfolding_all rfl) : TD X fa W (.Compare a [op, op'] [b, c] pos) (cChain g g' f1 f2 f3) := by
  obtain ⟨ta, pa, ka⟩ := ha
  obtain ⟨tb, pb, kb⟩ := hb
  obtain ⟨tc, pc, kc⟩ := hc
  refine ⟨_, pt_chain ho ho' pa pb pc hm, fun σ F H ρ s Q h1 h2 h3 h => ?_⟩
  refine (tok_chain ok ok' ka kb kc).then GoodB.tgt h1 h2 h3 h fun x s1 v F1 H1 e1 o1 r1 v1 h' => ?_
  cases x with
  | bl k => cases r1; exact ⟨k, rfl, h' F1 H1 (Ext.refl e1.fh) o1⟩
  | _ => exact h'.elim

/-! ### truth -/
theorem tru_rep {F H : Hp} {x : V} {d : D} {k : Bool} (h1 : Same F H) (r : Rep X.K fa F d x) (h : truthD d = some k) : TruV X.K x H k := by
  cases r with
  | non => cases h; rfl
  | bl b => cases h; rfl
  | int i => cases h; rfl
  | str y =>
    by_cases hl : y.length ≤ sizeLine
    · rw [show truthD (.str y) = some ((y.length : Int) != 0) from if_pos hl] at h
      cases h; exact ⟨hl, rfl⟩
    · rw [show truthD (.str y) = none from if_neg hl] at h
      cases h
  | feed a e => cases h
  | opq v => cases h
  | scr _ => cases h
  | tup h' r =>
    cases h
    refine .inr (.inl ⟨_, same_seqT h1 h', ?_⟩)
    cases r <;> rfl
  | lst h' r =>
    cases h
    refine .inl ⟨_, SqL.of (h1 _ _ h'), ?_⟩
    cases r <;> rfl
  | dic h' r => cases h
  | ins _ _ _ => cases h
theorem td_tru (ha : ED X fa W a f1) (he : ∀ whole, isTrue a X.env whole = (do let v ← whole; standAt a.pos; holding [v] (truthy v)) := by intro _; rfl) : TD X fa W a (cTru f1) := by
  obtain ⟨ta, pa, ka⟩ := ha
  refine ⟨_, pt_truth pa he, fun σ F H ρ s Q h1 h2 h3 h => ?_⟩
  refine ka.then GoodB.tgt h1 h2 h3 h fun x s1 v F1 H1 e1 o1 r1 v1 h' => ?_
  cases q : truthD x with
  | none => rw [q] at h'; exact h'.elim
  | some k =>
    rw [q] at h'
    exact ⟨k, tru_rep e1.fh r1 q, h' F1 H1 (Ext.refl e1.fh) o1⟩
theorem td_not (ha : TD X fa W a c1) : TD X fa W (.UnaryOp .Not a pos) (cNot c1) := by
  obtain ⟨ta, pa, ka⟩ := ha
  refine ⟨_, pt_not pa, fun σ F H ρ s Q h1 h2 h3 h => ?_⟩
  exact ka.then GoodB.tgt h1 h2 h3 h fun x s1 F1 H1 e1 o1 v1 h' => h' F1 H1 (Ext.refl e1.fh) o1
theorem twd_and1 (ha : TD X fa W a c1) : TWD X fa W (.BoolOp .And [a] pos) c1 := by
  obtain ⟨ta, pa, ka⟩ := ha
  exact ⟨_, pw_and1 pa, ka⟩
theorem twd_or1 (ha : TD X fa W a c1) : TWD X fa W (.BoolOp .Or [a] pos) c1 := by
  obtain ⟨ta, pa, ka⟩ := ha
  exact ⟨_, pw_or1 pa, ka⟩
theorem twd_and (ha : TD X fa W a c1) (hb : TWD X fa W (.BoolOp .And (b :: rest) pos) c2) : TWD X fa W (.BoolOp .And (a :: b :: rest) pos) (cAnd c1 c2) := by
  obtain ⟨ta, pa, ka⟩ := ha
  obtain ⟨tb, pb, kb⟩ := hb
  refine ⟨_, pw_and pa pb, fun σ F H ρ s Q h1 h2 h3 h => ?_⟩
  refine ka.then GoodB.tgt h1 h2 h3 h fun x s1 F1 H1 e1 o1 v1 h' => ?_
  cases x with
  | true => exact iteT (kb σ F1 H1 ρ s1 Q e1.fh o1 v1 h')
  | false => exact iteF (h' F1 H1 (Ext.refl e1.fh) o1)
theorem twd_or (ha : TD X fa W a c1) (hb : TWD X fa W (.BoolOp .Or (b :: rest) pos) c2) : TWD X fa W (.BoolOp .Or (a :: b :: rest) pos) (cOr c1 c2) := by
  obtain ⟨ta, pa, ka⟩ := ha
  obtain ⟨tb, pb, kb⟩ := hb
  refine ⟨_, pw_or pa pb, fun σ F H ρ s Q h1 h2 h3 h => ?_⟩
  refine ka.then GoodB.tgt h1 h2 h3 h fun x s1 F1 H1 e1 o1 v1 h' => ?_
  cases x with
  | false => exact iteF (kb σ F1 H1 ρ s1 Q e1.fh o1 v1 h')
  | true => exact iteT (h' F1 H1 (Ext.refl e1.fh) o1)
theorem TWD.td (h : TWD X fa W a c1) : TD X fa W a c1 := by
  obtain ⟨t, p, k⟩ := h
  exact ⟨t, p.pt, k⟩
theorem ed_one {op : BoolOp} (ha : ED X fa W a f1) : ED X fa W (.BoolOp op [a] pos) f1 := by
  obtain ⟨ta, pa, ka⟩ := ha
  exact ⟨_, pe_one pa, ka⟩
theorem ed_and (ha : ED X fa W a f1) (hb : ED X fa W (.BoolOp .And (b :: rest) pos) f2) : ED X fa W (.BoolOp .And (a :: b :: rest) pos) (dAnd f1 f2) := by
  obtain ⟨ta, pa, ka⟩ := ha
  obtain ⟨tb, pb, kb⟩ := hb
  refine ⟨_, L2.pe_andT pa pb, fun σ F H ρ s Q h1 h2 h3 h => ?_⟩
  refine ka.then Good.tgt h1 h2 h3 h fun x s1 v F1 H1 e1 o1 r1 v1 h' => ?_
  change Good X fa (W σ) F1 H1 (((M.lift (truthD x)).bind _) s1) Q at h'
  cases q : truthD x with
  | none => rw [q] at h'; exact h'.elim
  | some k =>
    rw [q] at h'
    refine ⟨k, tru_rep e1.fh r1 q, ?_⟩
    cases k with
    | true => exact iteT (kb σ F1 H1 ρ s1 Q e1.fh o1 v1 h')
    | false => exact iteF (Good.here e1.fh o1 r1 h')
theorem ed_or (ha : ED X fa W a f1) (hb : ED X fa W (.BoolOp .Or (b :: rest) pos) f2) : ED X fa W (.BoolOp .Or (a :: b :: rest) pos) (dOr f1 f2) := by
  obtain ⟨ta, pa, ka⟩ := ha
  obtain ⟨tb, pb, kb⟩ := hb
  refine ⟨_, L2.pe_orT pa pb, fun σ F H ρ s Q h1 h2 h3 h => ?_⟩
  refine ka.then Good.tgt h1 h2 h3 h fun x s1 v F1 H1 e1 o1 r1 v1 h' => ?_
  change Good X fa (W σ) F1 H1 (((M.lift (truthD x)).bind _) s1) Q at h'
  cases q : truthD x with
  | none => rw [q] at h'; exact h'.elim
  | some k =>
    rw [q] at h'
    refine ⟨k, tru_rep e1.fh r1 q, ?_⟩
    cases k with
    | false => exact iteF (kb σ F1 H1 ρ s1 Q e1.fh o1 v1 h')
    | true => exact iteT (Good.here e1.fh o1 r1 h')
theorem ed_not (ha : ED X fa W a f1) : ED X fa W (.UnaryOp .Not a pos) (dNot f1) := by
  obtain ⟨ta, pa, ka⟩ := ha
  refine ⟨_, L2.pe_notT pa, fun σ F H ρ s Q h1 h2 h3 h => ?_⟩
  refine ka.then Good.tgt h1 h2 h3 h fun x s1 v F1 H1 e1 o1 r1 v1 h' => ?_
  change Good X fa (W σ) F1 H1 (((M.lift (truthD x)).bind _) s1) Q at h'
  cases q : truthD x with
  | none => rw [q] at h'; exact h'.elim
  | some k =>
    rw [q] at h'
    exact ⟨k, tru_rep e1.fh r1 q, Good.here e1.fh o1 (.bl _) h'⟩
theorem ed_if (hc : TD X fa W c c1) (ha : ED X fa W a f1) (hb : ED X fa W b f2) : ED X fa W (.IfExp c a b pos) (dIf c1 f1 f2) := by
  obtain ⟨tc, pc, kc⟩ := hc
  obtain ⟨ta, pa, ka⟩ := ha
  obtain ⟨tb, pb, kb⟩ := hb
  refine ⟨_, pe_ifExp pc pa pb, fun σ F H ρ s Q h1 h2 h3 h => ?_⟩
  refine kc.then Good.tgt h1 h2 h3 h fun x s1 F1 H1 e1 o1 v1 h' => ?_
  cases x with
  | true => exact iteT (ka σ F1 H1 ρ s1 Q e1.fh o1 v1 h')
  | false => exact iteF (kb σ F1 H1 ρ s1 Q e1.fh o1 v1 h')

/-! ### lists of expressions, displays -/
theorem ld_nil : LD X fa W [] lNil := ⟨_, pa_nil, fun σ F H ρ s Q h1 h2 h3 h => h [] F H (Ext.refl h1) h2 .nil⟩
theorem ld_cons (ha : ED X fa W e f1) (hr : LD X fa W es fl) (hs : starEach (e :: es) X.env = (false, eval e X.env) :: starEach es X.env := by rfl) : LD X fa W (e :: es) (lCons f1 fl) := by
  obtain ⟨ta, pa, ka⟩ := ha
  obtain ⟨tr, pr, kr⟩ := hr
  refine ⟨_, pa_cons pa pr hs, fun σ F H ρ s Q h1 h2 h3 h => ?_⟩
  refine ka.then GoodL.tgt h1 h2 h3 h fun x s1 v F1 H1 e1 o1 r1 v1 h' => ?_
  refine kr.then GoodL.tgt e1.fh o1 v1 h' fun y s2 w F2 H2 e2 o2 r2 v2 h'' => ?_
  exact h'' _ F2 H2 (Ext.refl e2.fh) o2 (.cons (r1.mono e2.ff) r2)
theorem ld_star (ha : ED X fa W e f1) (hr : LD X fa W es fl) (hs : starEach (.Starred e p :: es) X.env = (true, eval e X.env) :: starEach es X.env := by rfl) : LD X fa W (.Starred e p :: es) (lStar f1 fl) := by
  obtain ⟨ta, pa, ka⟩ := ha
  obtain ⟨tr, pr, kr⟩ := hr
  refine ⟨_, StX.pa_star pa pr hs, fun σ F H ρ s Q h1 h2 h3 h => ?_⟩
  refine ka.then GoodL.tgt h1 h2 h3 h fun x s1 v F1 H1 e1 o1 r1 v1 h' => ?_
  change GoodL X fa (W σ) F1 H1 (((M.lift (seqD x)).bind _) s1) Q at h'
  cases r1 with
  | tup hq rl =>
    refine ⟨_, _, rfl, .inl (same_seqT e1.fh hq), ?_⟩
    refine kr.then GoodL.tgt e1.fh o1 v1 h' fun y s2 w F2 H2 e2 o2 r2 v2 h'' => ?_
    exact h'' _ F2 H2 (Ext.refl e2.fh) o2 ((rl.mono e2.ff).append r2)
  | lst hq rl =>
    refine ⟨_, _, rfl, .inr (SqL.of (e1.fh _ _ hq)), ?_⟩
    refine kr.then GoodL.tgt e1.fh o1 v1 h' fun y s2 w F2 H2 e2 o2 r2 v2 h'' => ?_
    exact h'' _ F2 H2 (Ext.refl e2.fh) o2 ((rl.mono e2.ff).append r2)
  | _ => exact h'.elim
theorem GoodO.mkTup {F H : Hp} {s : FS} {xs : List D} {vs : List V} {Q : VK} (h1 : Same F H) (h2 : FeedOk X.K fa F H s) (r : RepL X.K fa F xs vs) (h : GoodO X fa F H s (mkTup xs) Q) : vs.length ≤ sizeLine ∧ ∀ p, H p = none → Q (.ref p) (upd H p (.tup vs)) := by
  unfold DL.mkTup at h
  split at h
  · rename_i hl
    refine ⟨by rw [← r.length]; exact hl, fun p hp => GoodO.new h1 h2 hp (.tup (SqT.of upd_same) (r.mono (Ext.new (fa := fa) h1 hp).ff)) h⟩
  · exact h.elim
theorem GoodO.mkLst {F H : Hp} {s : FS} {xs : List D} {vs : List V} {Q : VK} (h1 : Same F H) (h2 : FeedOk X.K fa F H s) (r : RepL X.K fa F xs vs) (h : GoodO X fa F H s (mkLst xs) Q) : vs.length ≤ sizeLine ∧ ∀ p, H p = none → Q (.ref p) (upd H p (.lst vs)) := by
  unfold DL.mkLst at h
  split at h
  · rename_i hl
    refine ⟨by rw [← r.length]; exact hl, fun p hp => GoodO.new h1 h2 hp (.lst upd_same (r.mono (Ext.new (fa := fa) h1 hp).ff)) h⟩
  · exact h.elim
theorem ed_tup {k : Nat} (ha : LD X fa W es fl) : ED X fa W (.Tuple es k pos) (dFn mkTup fl) := by
  obtain ⟨ta, pa, ka⟩ := ha
  refine ⟨_, pe_tup pa, fun σ F H ρ s Q h1 h2 h3 h => ?_⟩
  refine ka.then Good.tgt h1 h2 h3 h fun x s1 v F1 H1 e1 o1 r1 v1 h' => ?_
  exact GoodO.mkTup e1.fh o1 r1 (Good.lift h')
theorem ed_lst (ha : LD X fa W es fl) : ED X fa W (.List es pos) (dFn mkLst fl) := by
  obtain ⟨ta, pa, ka⟩ := ha
  refine ⟨_, pe_lst pa, fun σ F H ρ s Q h1 h2 h3 h => ?_⟩
  refine ka.then Good.tgt h1 h2 h3 h fun x s1 v F1 H1 e1 o1 r1 v1 h' => ?_
  exact GoodO.mkLst e1.fh o1 r1 (Good.lift h')

/-! ### calls -/
/-- the promise of a def: it computes g -/
def DSp (K : PySem.W.Frag) (mg : Str → Option Value) (g : List D → M D) : Sp := fun vs H Q E =>
  ∃ fa F s ds, Same F H ∧ FeedOk K fa F H s ∧ RepL K fa F ds vs ∧ GoodK K mg fa E F H (g ds s) Q
theorem ed_call {CX : CXT} {k : Nat} {f : Addr} {fd : FuncData} {ps : List Str} {g : List D → M D} {x : Str} (F : FnOk X.prog X.w X.K X.mg X.base CX k f fd ps (DSp X.K X.mg g)) (hr : Room k X.A) (hm : X.mg x = some (.ref f)) (hk : PySem.W.keepIn X.K (.ref f) = true) (hb : Binds X.K fd ps [])
    (hx : ∀ σ, PassesAt CX X σ (W σ)) (ha : LD X fa W (e :: es) fl) (hg : Gl X x := by rfl) (hdb : (x == ("__debug__" : Str)) = false := by decide) (he : starEach (e :: es) X.env = (false, eval e X.env) :: starEach es X.env := by rfl) (hpl : (backTo pos (starEach es X.env)).any (·.1) = false := by rfl) :
    ED X fa W (.Call (.Name x p) (e :: es) [] pos) (dCall g fl) := by
  obtain ⟨ta, pa, ka⟩ := ha
  refine ⟨_, pe_callS F hr hg hm hk hb hx pa hdb he hpl, fun σ F H ρ s Q h1 h2 h3 h => ?_⟩
  refine ka.then Good.tgt h1 h2 h3 h fun x s1 v F1 H1 e1 o1 r1 v1 h' => ?_
  exact ⟨fa, F1, s1, x, e1.fh, o1, r1, h'⟩
theorem ed_callB {id : String} {r : List V → Hp → VK → Prop} {g : List D → Option D} {x : Str} (hc : CallR X (.builtin id) r) (ok : CallOk X fa r g) (hm : X.mg x = none) (ha : LD X fa W (e :: es) fl) (hv : bootBuiltins x = some (.builtin id) := by decide +kernel)
    (hg : Gl X x := by rfl) (hn : x ≠ "__name__" := by decide) (hdb : (x == ("__debug__" : Str)) = false := by decide) (he : starEach (e :: es) X.env = (false, eval e X.env) :: starEach es X.env := by rfl) (hpl : (backTo pos (starEach es X.env)).any (·.1) = false := by rfl) :
    ED X fa W (.Call (.Name x p) (e :: es) [] pos) (dFn g fl) := by
  obtain ⟨ta, pa, ka⟩ := ha
  refine ⟨_, pe_callB hc hg hm hv pa hn hdb he hpl, fun σ F H ρ s Q h1 h2 h3 h => ?_⟩
  refine ka.then Good.tgt h1 h2 h3 h fun x s1 v F1 H1 e1 o1 r1 v1 h' => ?_
  exact ok F1 H1 s1 v x Q e1.fh o1 r1 (Good.lift h')
theorem ed_callTy {T : String} {r : List V → Hp → VK → Prop} {g : List D → Option D} {x : Str} (hc : CallR X (.type T) r) (ok : CallOk X fa r g) (hm : X.mg x = none) (ha : LD X fa W (e :: es) fl) (hv : bootBuiltins x = some (.type T) := by decide +kernel)
    (hg : Gl X x := by rfl) (hn : x ≠ "__name__" := by decide) (hdb : (x == ("__debug__" : Str)) = false := by decide) (he : starEach (e :: es) X.env = (false, eval e X.env) :: starEach es X.env := by rfl) (hpl : (backTo pos (starEach es X.env)).any (·.1) = false := by rfl) :
    ED X fa W (.Call (.Name x p) (e :: es) [] pos) (dFn g fl) := by
  obtain ⟨ta, pa, ka⟩ := ha
  refine ⟨_, pe_callTy hc hg hm hv pa hn hdb he hpl, fun σ F H ρ s Q h1 h2 h3 h => ?_⟩
  refine ka.then Good.tgt h1 h2 h3 h fun x s1 v F1 H1 e1 o1 r1 v1 h' => ?_
  exact ok F1 H1 s1 v x Q e1.fh o1 r1 (Good.lift h')
end
end DL

set_option Elab.async false
set_option linter.all false
set_option maxRecDepth 100000
set_option maxHeartbeats 2000000
/-! The data layer: statements, with lists and dicts that a slot owns. -/
namespace DL
open PySem PySem.Spec PyProof.Rows L2

/-! ### what a slot holds -/
inductive EV where
  | no
  | d (x : D)
  | ol (xs : List D)
  | od (kvs : List (Key × D))
  /-- an instance that is being made -/
  | oi (x : Addr) (cls : Str) (fs : List (Str × D))
abbrev Sts := List EV
def EV.view : EV → Option D
  | .no => none
  | .d x => some x
  | .ol xs => some (.lst xs)
  | .od kvs => some (.dic kvs)
  | .oi _ c fs => some (.ins c fs)
def EV.mask : EV → Option D
  | .d x => some x
  | _ => none
def EV.own : EV → Bool
  | .ol _ => true
  | .od _ => true
  | .oi _ _ _ => true
  | _ => false
/-- frozen -/
def EV.fz : EV → EV
  | .ol xs => .d (.lst xs)
  | .od kvs => .d (.dic kvs)
  | .oi _ c fs => .d (.ins c fs)
  | e => e
def view (ρ : Sts) : Env' := ρ.map EV.view
def mask (ρ : Sts) : Env' := ρ.map EV.mask

def SlotOk (K : PySem.W.Frag) (fa : Option FA) (H0 F H : Hp) (p : Addr) (w : Option V) : EV → Prop
  | .no => True
  | .d x => ∃ v, w = some v ∧ Rep K fa F x v
  | .ol xs => w = some (.ref p) ∧ F p = none ∧ H0 p = none ∧ Nfa fa p ∧ ∃ vs, H p = some (.lst vs) ∧ RepL K fa F xs vs
  | .od kvs => w = some (.ref p) ∧ F p = none ∧ H0 p = none ∧ Nfa fa p ∧ ∃ vs, H p = some (.dK vs) ∧ RepK K fa F kvs vs
  | .oi x cls fs => w = some (.ref p) ∧ F p = none ∧ H0 p = none ∧ Nfa fa p ∧ p = x ∧ ∃ C dx vs, H p = some (.ins C dx vs) ∧ PySem.W.nsIn K mainGlobals cls = some (some (.ref C)) ∧ RepF K fa F fs vs

structure SOk (K : PySem.W.Frag) (fa : Option FA) (B F0 H0 F H : Hp) (A : Nat → Addr) (σ : L2.St) (ρ : Sts) (s : FS) : Prop where
  ext : Ext fa F0 H0 F H
  flr : Same B F
  fd : FeedOk K fa F H s
  len : σ.length = ρ.length
  slot : ∀ i ev, ρ[i]? = some ev → SlotOk K fa H0 F H (A i) (σ[i]?.join) ev
  inj : ∀ i j ev ev', ρ[i]? = some ev → ρ[j]? = some ev' → ev.own = true → ev'.own = true → A i = A j → i = j

section
variable {K : PySem.W.Frag} {fa : Option FA} {B B' F0 H0 F H F' H' : Hp} {A : Nat → Addr} {σ : L2.St} {ρ ρ' : Sts} {s s' : FS}
theorem SlotOk.own_at {p : Addr} {w : Option V} {ev : EV} (h : SlotOk K fa H0 F H p w ev) (ho : ev.own = true) : w = some (.ref p) ∧ F p = none ∧ H0 p = none ∧ Nfa fa p ∧ H p ≠ none := by
  cases ev with
  | ol xs =>
    obtain ⟨a, b, c, d, vs, e, _⟩ := h
    exact ⟨a, b, c, d, by rw [e]; simp⟩
  | od xs =>
    obtain ⟨a, b, c, d, vs, e, _⟩ := h
    exact ⟨a, b, c, d, by rw [e]; simp⟩
  | oi xx cl xs =>
    obtain ⟨a, b, c, d, px, C, dx, vs, e, _⟩ := h
    exact ⟨a, b, c, d, by rw [e]; simp⟩
  | _ => cases ho
/-- an expression has run from F, H to F', H' -/
theorem SlotOk.step {p : Addr} {w : Option V} {ev : EV} (h : SlotOk K fa H0 F H p w ev) (e : Ext fa F H F' H') : SlotOk K fa H0 F' H' p w ev := by
  cases ev with
  | no => trivial
  | d x =>
    obtain ⟨v, a, b⟩ := h
    exact ⟨v, a, b.mono e.ff⟩
  | ol xs =>
    obtain ⟨a, b, c, d, vs, g, r⟩ := h
    exact ⟨a, (e.fr p (by rw [g]; simp)).trans b, c, d, vs, e.hh _ _ g d, r.mono e.ff⟩
  | od xs =>
    obtain ⟨a, b, c, d, vs, g, r⟩ := h
    exact ⟨a, (e.fr p (by rw [g]; simp)).trans b, c, d, vs, e.hh _ _ g d, r.mono e.ff⟩
  | oi xx cl xs =>
    obtain ⟨a, b, c, d, px, C, dx, vs, g, n, r⟩ := h
    exact ⟨a, (e.fr p (by rw [g]; simp)).trans b, c, d, px, C, dx, vs, e.hh _ _ g d, n, r.mono e.ff⟩
theorem SOk.step (S : SOk K fa B F0 H0 F H A σ ρ s) (e : Ext fa F H F' H') (fo : FeedOk K fa F' H' s') : SOk K fa B F0 H0 F' H' A σ ρ s' :=
  ⟨S.ext.trans e, S.flr.trans e.ff, fo, S.len, fun i ev h => (S.slot i ev h).step e, S.inj⟩
theorem SOk.base (S : SOk K fa B F0 H0 F H A σ ρ s) (b : Same B' B) : SOk K fa B' F0 H0 F H A σ ρ s := ⟨S.ext, b.trans S.flr, S.fd, S.len, S.slot, S.inj⟩
theorem SOk.floor (S : SOk K fa B F0 H0 F H A σ ρ s) : SOk K fa F F0 H0 F H A σ ρ s := ⟨S.ext, Same.refl _, S.fd, S.len, S.slot, S.inj⟩

/-! ### all that is owned, as if frozen -/
open Classical in
noncomputable def Fp (F H : Hp) (A : Nat → Addr) (ρ : Sts) : Hp := fun b => if ∃ i ev, ρ[i]? = some ev ∧ ev.own = true ∧ A i = b then H b else F b
theorem Fp_own {i : Nat} {ev : EV} (h : ρ[i]? = some ev) (ho : ev.own = true) : Fp F H A ρ (A i) = H (A i) := by
  unfold Fp
  rw [if_pos ⟨i, ev, h, ho, rfl⟩]
theorem Fp_not {b : Addr} (h : ¬ ∃ i ev, ρ[i]? = some ev ∧ ev.own = true ∧ A i = b) : Fp F H A ρ b = F b := by
  unfold Fp
  rw [if_neg h]
theorem SOk.fp (S : SOk K fa B F0 H0 F H A σ ρ s) : Same F (Fp F H A ρ) ∧ Same (Fp F H A ρ) H ∧ FeedOk K fa (Fp F H A ρ) H s ∧ Ext fa F0 H0 (Fp F H A ρ) H := by
  have ff : Same F (Fp F H A ρ) := fun b o e => by
    rw [Fp_not]
    · exact e
    · rintro ⟨i, ev, h, ho, rfl⟩
      rw [((S.slot i ev h).own_at ho).2.1] at e
      cases e
  have fh : Same (Fp F H A ρ) H := fun b o e => by
    by_cases h : ∃ i ev, ρ[i]? = some ev ∧ ev.own = true ∧ A i = b
    · obtain ⟨i, ev, h, ho, rfl⟩ := h
      rw [Fp_own h ho] at e
      exact e
    · rw [Fp_not h] at e
      exact S.ext.fh b o e
  refine ⟨ff, fh, fun φ e => ?_, ⟨S.ext.ff.trans ff, fh, S.ext.hh, fun b e => ?_, S.ext.al⟩⟩
  · obtain ⟨h1, h2, h3, h4⟩ := S.fd φ e
    refine ⟨?_, h2, h3, ff _ _ h4⟩
    rw [Fp_not]
    · exact h1
    · rintro ⟨i, ev, h, ho, q⟩
      exact ((S.slot i ev h).own_at ho).2.2.2.1 φ e q.symm
  · rw [Fp_not]
    · exact S.ext.fr b e
    · rintro ⟨i, ev, h, ho, rfl⟩
      exact e ((S.slot i ev h).own_at ho).2.2.1
/-- a slot, seen in the frozen heap -/
theorem SOk.slotFp (S : SOk K fa B F0 H0 F H A σ ρ s) {i : Nat} {ev : EV} {x : D} (h : ρ[i]? = some ev) (hv : ev.view = some x) : ∃ v, σ[i]?.join = some v ∧ Rep K fa (Fp F H A ρ) x v := by
  have q := S.slot i ev h
  have ff := S.fp.1
  cases ev with
  | no => cases hv
  | d y =>
    cases hv
    obtain ⟨v, a, b⟩ := q
    exact ⟨v, a, b.mono ff⟩
  | ol xs =>
    cases hv
    obtain ⟨a, b, c, d, vs, g, r⟩ := q
    exact ⟨_, a, .lst (by rw [Fp_own h rfl]; exact g) (r.mono ff)⟩
  | od xs =>
    cases hv
    obtain ⟨a, b, c, d, vs, g, r⟩ := q
    exact ⟨_, a, .dic (.inl (by rw [Fp_own h rfl]; exact g)) (r.mono ff)⟩
  | oi xx cl xs =>
    cases hv
    obtain ⟨a, b, c, d, px, C, dx, vs, g, n, r⟩ := q
    exact ⟨_, a, .ins (by rw [Fp_own h rfl]; exact g) n (r.mono ff)⟩
theorem join_some {σ : L2.St} {i : Nat} {v : V} (h : σ[i]?.join = some v) : σ[i]? = some (some v) := by
  cases e : σ[i]? with
  | none => rw [e] at h; cases h
  | some w => rw [e] at h; exact congrArg some h
theorem app_get {α : Type} {l m : List α} {i : Nat} {x : α} (h : l[i]? = some x) : (l ++ m)[i]? = some x := by
  rw [List.getElem?_append_left (List.getElem?_eq_some_iff.mp h).1]
  exact h
/-- the environment of an expression: the slots, what is owned as if frozen (more may lie behind) -/
theorem SOk.view {σ vs : L2.St} {ρ evs : Sts} (S : SOk K fa B F0 H0 F H A (σ ++ vs) (ρ ++ evs) s) (hl : σ.length = ρ.length) : EnvOk K fa (Fp F H A (ρ ++ evs)) σ (DL.view ρ) := ⟨by unfold DL.view; simp [hl], fun i d h => by
  unfold DL.view at h
  rw [List.getElem?_map] at h
  cases e : ρ[i]? with
  | none => rw [e] at h; cases h
  | some ev =>
    rw [e] at h
    have hv : ev.view = some d := Option.some.inj h
    obtain ⟨v, a, r⟩ := S.slotFp (app_get e) hv
    refine ⟨v, ?_, r⟩
    have hi : i < σ.length := by rw [hl]; exact (List.getElem?_eq_some_iff.mp e).1
    rw [List.getElem?_append_left hi] at a
    exact join_some a⟩
theorem SOk.mask {σ vs : L2.St} {ρ evs : Sts} (S : SOk K fa B F0 H0 F H A (σ ++ vs) (ρ ++ evs) s) (hl : σ.length = ρ.length) : EnvOk K fa F σ (DL.mask ρ) := ⟨by unfold DL.mask; simp [hl], fun i d h => by
  unfold DL.mask at h
  rw [List.getElem?_map] at h
  cases e : ρ[i]? with
  | none => rw [e] at h; cases h
  | some ev =>
    rw [e] at h
    have hv : ev.mask = some d := Option.some.inj h
    have q := S.slot i ev (app_get e)
    have hi : i < σ.length := by rw [hl]; exact (List.getElem?_eq_some_iff.mp e).1
    rw [List.getElem?_append_left hi] at q
    cases ev with
    | d y =>
      cases hv
      obtain ⟨v, a, b⟩ := q
      exact ⟨v, join_some a, b⟩
    | _ => cases hv⟩
/-- what an expression over the frozen heap has made is forgotten -/
theorem SOk.back (S : SOk K fa B F0 H0 F H A σ ρ s) (e : Ext fa (Fp F H A ρ) H F' H') (fo : FeedOk K fa F' H' s') : SOk K fa B F0 H0 F H' A σ ρ s' := by
  have hh : Same F H' := fun b o q => e.fh b o (e.ff b o (S.fp.1 b o q))
  have ext : Ext fa F H F H' := ⟨Same.refl _, hh, e.hh, fun _ _ => rfl, e.al⟩
  refine ⟨S.ext.trans ext, S.flr, fun φ q => ?_, S.len, fun i ev h => (S.slot i ev h).step ext, S.inj⟩
  obtain ⟨h1, h2, h3, h4⟩ := S.fd φ q
  obtain ⟨g1, g2, g3, g4⟩ := fo φ q
  exact ⟨h1, g2, g3, h4⟩

/-! ### the stack of values -/
theorem SlotOk.any {p q : Addr} {w : Option V} {ev : EV} (h : SlotOk K fa H0 F H p w ev) (n : ev.own = false) : SlotOk K fa H0 F H q w ev := by
  cases ev with
  | no => trivial
  | d x => exact h
  | ol xs => cases n
  | od xs => cases n
  | oi xx cl xs => cases n
theorem SOk.push (S : SOk K fa B F0 H0 F H A σ ρ s) {x : D} {w : V} (r : Rep K fa F x w) : SOk K fa B F0 H0 F H A (σ ++ [some w]) (ρ ++ [.d x]) s := by
  refine ⟨S.ext, S.flr, S.fd, by simp [S.len], fun i ev h => ?_, fun i j ev ev' h h' ho ho' e => ?_⟩
  · by_cases hi : i < ρ.length
    · rw [List.getElem?_append_left hi] at h
      rw [List.getElem?_append_left (by rw [S.len]; exact hi)]
      exact S.slot i ev h
    · rw [List.getElem?_append_right (by omega)] at h
      have h0 : i - ρ.length = 0 := by
        have := (List.getElem?_eq_some_iff.mp h).1
        simp at this
        omega
      rw [h0] at h
      cases h
      rw [List.getElem?_append_right (by rw [S.len]; omega), S.len, h0]
      exact ⟨w, rfl, r⟩
  · have low : ∀ {k : Nat} {e : EV}, (ρ ++ [.d x])[k]? = some e → e.own = true → ρ[k]? = some e := fun {k e} hk ho => by
      by_cases hi : k < ρ.length
      · rw [List.getElem?_append_left hi] at hk
        exact hk
      · rw [List.getElem?_append_right (by omega)] at hk
        have h0 : k - ρ.length = 0 := by
          have := (List.getElem?_eq_some_iff.mp hk).1
          simp at this
          omega
        rw [h0] at hk
        cases hk
        cases ho
    exact S.inj i j ev ev' (low h ho) (low h' ho') ho ho' e
/-- a new object that is owned, on the stack -/
theorem SOk.pushO (S : SOk K fa B F0 H0 F H A σ ρ s) {ev : EV} {p : Addr} (np : ∀ i ev', ρ[i]? = some ev' → ev'.own = true → A i ≠ p) (r : SlotOk K fa H0 F H p (some (.ref p)) ev) :
    SOk K fa B F0 H0 F H (fun i => if i = ρ.length then p else A i) (σ ++ [some (.ref p)]) (ρ ++ [ev]) s := by
  have low : ∀ {k : Nat} {e : EV}, (ρ ++ [ev])[k]? = some e → (ρ[k]? = some e ∧ k ≠ ρ.length) ∨ (k = ρ.length ∧ e = ev) := fun {k e} hk => by
    by_cases hi : k < ρ.length
    · rw [List.getElem?_append_left hi] at hk
      exact .inl ⟨hk, by omega⟩
    · rw [List.getElem?_append_right (by omega)] at hk
      have h0 : k - ρ.length = 0 := by
        have := (List.getElem?_eq_some_iff.mp hk).1
        simp at this
        omega
      rw [h0] at hk
      cases hk
      exact .inr ⟨by omega, rfl⟩
  refine ⟨S.ext, S.flr, S.fd, by simp [S.len], fun i e h => ?_, fun i j e e' h h' ho ho' q => ?_⟩
  · rcases low h with ⟨h, hn⟩ | ⟨rfl, rfl⟩
    · rw [if_neg hn, List.getElem?_append_left (by rw [S.len]; exact (List.getElem?_eq_some_iff.mp h).1)]
      exact S.slot i e h
    · rw [if_pos rfl, List.getElem?_append_right (by rw [S.len]; omega), S.len, Nat.sub_self]
      exact r
  · rcases low h with ⟨g1, hn⟩ | ⟨hi, he⟩
    · rcases low h' with ⟨g2, hn'⟩ | ⟨hj, he'⟩
      · rw [if_neg hn, if_neg hn'] at q
        exact S.inj i j e e' g1 g2 ho ho' q
      · rw [if_neg hn, if_pos hj] at q
        exact absurd q (np i e g1 ho)
    · rcases low h' with ⟨g2, hn'⟩ | ⟨hj, he'⟩
      · rw [if_pos hi, if_neg hn'] at q
        exact absurd q.symm (np j e' g2 ho')
      · rw [hi, hj]
/-- the top of the stack goes to slot i -/
theorem SOk.pop {ev : EV} {w : V} (S : SOk K fa B F0 H0 F H A (σ ++ [some w]) (ρ ++ [ev]) s) (hl : σ.length = ρ.length) (i : Nat) : SOk K fa B F0 H0 F H (fun j => if j = i then A ρ.length else A j) (σ.set i (some w)) (ρ.set i ev) s := by
  have top : (ρ ++ [ev])[ρ.length]? = some ev := by simp
  have rt := S.slot _ _ top
  have et : (σ ++ [some w])[ρ.length]?.join = some w := by
    rw [← hl]
    simp
  rw [et] at rt
  have low : ∀ {k : Nat} {e : EV}, (ρ.set i ev)[k]? = some e → (k = i ∧ e = ev ∧ i < ρ.length) ∨ (k ≠ i ∧ ρ[k]? = some e ∧ k < ρ.length) := fun {k e} hk => by
    by_cases hi : i = k
    · subst hi
      by_cases hlt : i < ρ.length
      · rw [List.getElem?_set_self hlt] at hk
        cases hk
        exact .inl ⟨rfl, rfl, hlt⟩
      · rw [List.getElem?_eq_none (by simpa using hlt)] at hk
        cases hk
    · rw [List.getElem?_set_ne hi] at hk
      exact .inr ⟨Ne.symm hi, hk, (List.getElem?_eq_some_iff.mp hk).1⟩
  refine ⟨S.ext, S.flr, S.fd, by simp [hl], fun k e h => ?_, fun k j e e' h h' ho ho' q => ?_⟩
  · rcases low h with ⟨rfl, rfl, hlt⟩ | ⟨hn, h, hlt⟩
    · rw [if_pos rfl, List.getElem?_set_self (by omega)]
      exact rt
    · rw [if_neg hn, List.getElem?_set_ne (Ne.symm hn)]
      have z := S.slot k e (app_get h)
      rw [List.getElem?_append_left (by omega)] at z
      exact z
  · rcases low h with ⟨hk, he, hlt⟩ | ⟨hn, g1, hlt⟩
    · rcases low h' with ⟨hj, he', hlt'⟩ | ⟨hn', g2, hlt'⟩
      · rw [hk, hj]
      · rw [if_pos hk, if_neg hn'] at q
        have := S.inj ρ.length j _ _ top (app_get g2) (he ▸ ho) ho' q
        omega
    · rcases low h' with ⟨hj, he', hlt'⟩ | ⟨hn', g2, hlt'⟩
      · rw [if_neg hn, if_pos hj] at q
        have := S.inj k ρ.length _ _ (app_get g1) top ho (he' ▸ ho') q
        omega
      · rw [if_neg hn, if_neg hn'] at q
        exact S.inj k j _ _ (app_get g1) (app_get g2) ho ho' q
/-- the top of the stack is dropped -/
theorem SOk.drop {ev : EV} {w : Option V} (S : SOk K fa B F0 H0 F H A (σ ++ [w]) (ρ ++ [ev]) s) (hl : σ.length = ρ.length) : SOk K fa B F0 H0 F H A σ ρ s := by
  refine ⟨S.ext, S.flr, S.fd, hl, fun i e h => ?_, fun i j e e' h h' => S.inj i j e e' (app_get h) (app_get h')⟩
  have z := S.slot i e (app_get h)
  rw [List.getElem?_append_left (by rw [hl]; exact (List.getElem?_eq_some_iff.mp h).1)] at z
  exact z
/-- an owned object at slot i gets new content -/
theorem SOk.write (S : SOk K fa B F0 H0 F H A σ ρ s) {i : Nat} {ev ev' : EV} {o : HO} (h : ρ[i]? = some ev) (ho : ev.own = true) (ho' : ev'.own = true) (r : SlotOk K fa H0 F (upd H (A i) o) (A i) (some (.ref (A i))) ev') :
    SOk K fa B F0 H0 F (upd H (A i) o) A σ (ρ.set i ev') s := by
  obtain ⟨w0, f0, g0, n0, q0⟩ := (S.slot i ev h).own_at ho
  have hi : i < ρ.length := (List.getElem?_eq_some_iff.mp h).1
  have ne : ∀ b u, F b = some u → b ≠ A i := fun b u e z => by rw [z, f0] at e; cases e
  refine ⟨⟨S.ext.ff, fun b u e => by rw [upd_ne (ne b u e)]; exact S.ext.fh b u e, fun b u e n => ?_, S.ext.fr, fun b e => ?_⟩, S.flr, fun φ e => ?_, by simp [S.len], fun j e hj => ?_, fun j k e e' hj hk hoj hok q => ?_⟩
  · have : b ≠ A i := fun z => by rw [z, g0] at e; cases e
    rw [upd_ne this]
    exact S.ext.hh b u e n
  · by_cases hb : b = A i
    · subst hb; rw [upd_same]; simp
    · rw [upd_ne hb]; exact S.ext.al b e
  · obtain ⟨h1, h2, h3, h4⟩ := S.fd φ e
    refine ⟨h1, h2, ?_, h4⟩
    rw [upd_ne (n0 φ e)]
    exact h3
  · by_cases hji : i = j
    · subst hji
      rw [List.getElem?_set_self hi] at hj
      cases hj
      rw [w0]
      exact r
    · rw [List.getElem?_set_ne hji] at hj
      have z := S.slot j e hj
      have na : e.own = true → A j ≠ A i := fun hoj q => hji (S.inj i j ev e h hj ho hoj q.symm)
      cases e with
      | no => trivial
      | d x => exact z
      | ol xs =>
        obtain ⟨a, b, c, d, vs, g, rr⟩ := z
        exact ⟨a, b, c, d, vs, by rw [upd_ne (na rfl)]; exact g, rr⟩
      | od xs =>
        obtain ⟨a, b, c, d, vs, g, rr⟩ := z
        exact ⟨a, b, c, d, vs, by rw [upd_ne (na rfl)]; exact g, rr⟩
      | oi xx cl xs =>
        obtain ⟨a, b, c, d, px, C, dx, vs, g, n, rr⟩ := z
        exact ⟨a, b, c, d, px, C, dx, vs, by rw [upd_ne (na rfl)]; exact g, n, rr⟩
  · have low : ∀ {m : Nat} {u : EV}, (ρ.set i ev')[m]? = some u → u.own = true → ∃ u', ρ[m]? = some u' ∧ u'.own = true := fun {m u} hm hu => by
      by_cases hmi : i = m
      · subst hmi
        exact ⟨ev, h, ho⟩
      · rw [List.getElem?_set_ne hmi] at hm
        exact ⟨u, hm, hu⟩
    obtain ⟨u, hu, ou⟩ := low hj hoj
    obtain ⟨u', hu', ou'⟩ := low hk hok
    exact S.inj j k u u' hu hu' ou ou' q
/-- slot i is frozen for good -/
theorem SOk.freeze (S : SOk K fa B F0 H0 F H A σ ρ s) {i : Nat} {ev : EV} (h : ρ[i]? = some ev) : ∃ F', SOk K fa B F0 H0 F' H A σ (ρ.set i ev.fz) s := by
  by_cases ho : ev.own = true
  · obtain ⟨w0, f0, g0, n0, q0⟩ := (S.slot i ev h).own_at ho
    have hi : i < ρ.length := (List.getElem?_eq_some_iff.mp h).1
    cases eo : H (A i) with
    | none => exact absurd eo q0
    | some o =>
      have ff : Same F (upd F (A i) o) := fun b u e => by
        rw [upd_ne (ne_of_none e f0)]; exact e
      refine ⟨upd F (A i) o, ⟨S.ext.ff.trans ff, fun b u e => ?_, S.ext.hh, fun b e => ?_, S.ext.al⟩, S.flr.trans ff, fun φ e => ?_, by simp [S.len], fun j e hj => ?_, fun j k e e' hj hk hoj hok q => ?_⟩
      · by_cases hb : b = A i
        · subst hb; rw [upd_same] at e; rw [eo]; exact e
        · rw [upd_ne hb] at e; exact S.ext.fh b u e
      · have : b ≠ A i := fun z => e (z ▸ g0)
        rw [upd_ne this]; exact S.ext.fr b e
      · obtain ⟨h1, h2, h3, h4⟩ := S.fd φ e
        exact ⟨by rw [upd_ne (n0 φ e)]; exact h1, h2, h3, ff _ _ h4⟩
      · by_cases hji : i = j
        · subst hji
          rw [List.getElem?_set_self hi] at hj
          cases hj
          rw [w0]
          have z := S.slot i ev h
          cases ev with
          | ol xs =>
            obtain ⟨a, b, c, d, vs, g, rr⟩ := z
            rw [eo] at g
            cases g
            exact ⟨_, rfl, .lst upd_same (rr.mono ff)⟩
          | od xs =>
            obtain ⟨a, b, c, d, vs, g, rr⟩ := z
            rw [eo] at g
            cases g
            exact ⟨_, rfl, .dic (.inl upd_same) (rr.mono ff)⟩
          | oi xx cl xs =>
            obtain ⟨a, b, c, d, px, C, dx, vs, g, n, rr⟩ := z
            rw [eo] at g
            cases g
            exact ⟨_, rfl, .ins upd_same n (rr.mono ff)⟩
          | _ => cases ho
        · rw [List.getElem?_set_ne hji] at hj
          have z := S.slot j e hj
          have na : e.own = true → A j ≠ A i := fun hoj q => hji (S.inj i j ev e h hj ho hoj q.symm)
          cases e with
          | no => trivial
          | d x =>
            obtain ⟨v, a, b⟩ := z
            exact ⟨v, a, b.mono ff⟩
          | ol xs =>
            obtain ⟨a, b, c, d, vs, g, rr⟩ := z
            exact ⟨a, by rw [upd_ne (na rfl)]; exact b, c, d, vs, g, rr.mono ff⟩
          | od xs =>
            obtain ⟨a, b, c, d, vs, g, rr⟩ := z
            exact ⟨a, by rw [upd_ne (na rfl)]; exact b, c, d, vs, g, rr.mono ff⟩
          | oi xx cl xs =>
            obtain ⟨a, b, c, d, px, C, dx, vs, g, n, rr⟩ := z
            exact ⟨a, by rw [upd_ne (na rfl)]; exact b, c, d, px, C, dx, vs, g, n, rr.mono ff⟩
      · have low : ∀ {m : Nat} {u : EV}, (ρ.set i ev.fz)[m]? = some u → u.own = true → ρ[m]? = some u := fun {m u} hm hu => by
          by_cases hmi : i = m
          · subst hmi
            rw [List.getElem?_set_self hi] at hm
            cases hm
            cases ev <;> cases hu
          · rw [List.getElem?_set_ne hmi] at hm
            exact hm
        exact S.inj j k e e' (low hj hoj) (low hk hok) hoj hok q
  · have e : ev.fz = ev := by
      cases ev <;> first | rfl | exact absurd rfl ho
    have er : ρ.set i ev.fz = ρ := by
      rw [e]
      exact List.ext_getElem? fun j => by
        by_cases hj : i = j
        · subst hj
          rw [List.getElem?_set_self (List.getElem?_eq_some_iff.mp h).1, h]
        · rw [List.getElem?_set_ne hj]
    rw [er]
    exact ⟨F, S⟩
end
end DL

set_option Elab.async false
set_option linter.all false
set_option maxRecDepth 100000
set_option maxHeartbeats 2000000
/-! The data layer: values at statements, statements. -/
namespace DL
open PySem PySem.Spec PyProof.Rows L2

/-! ### values -/
def GoodV (X : Cx) (fa : Option FA) (W : XK) (B F0 H0 : Hp) (σ vs : L2.St) (evs : Sts) (r : Res (EV × Sts)) (Q : VK) : Prop :=
  match r with
  | .bad => False
  | .ok p s' => ∀ w F' H' A', SOk X.K fa B F0 H0 F' H' A' (σ ++ vs ++ [some w]) (p.2 ++ evs ++ [p.1]) s' → Q w H'
  | .err e s' => ∀ cls dd F' H', Ext fa F0 H0 F' H' → FeedOk X.K fa F' H' s' → RepX X.K X.mg fa F' H' e cls dd → W cls dd H'
def VOk (X : Cx) (fa : Option FA) (W : XK) (t : TE) (f : Sts → M (EV × Sts)) : Prop :=
  ∀ (B F0 H0 F H : Hp) (A : Nat → Addr) (σ vs : L2.St) (ρ evs : Sts) (s : FS) (Q : VK), σ.length = ρ.length → SOk X.K fa B F0 H0 F H A (σ ++ vs) (ρ ++ evs) s → GoodV X fa W B F0 H0 σ vs evs (f ρ s) Q → t σ H Q
/-- AN EXPRESSION AT A STATEMENT: what it gives (data, or a new list that is then owned), and what it leaves of the slots -/
def VJ (X : Cx) (fa : Option FA) (W : XK) (e : Expr) (f : Sts → M (EV × Sts)) : Prop := ∃ t, PE X e t ∧ VOk X fa W t f

def scalD : D → Option D
  | .non => some .non
  | .bl b => some (.bl b)
  | .int i => some (.int i)
  | .str x => some (.str x)
  | _ => none
def vMask (f : Env' → M D) : Sts → M (EV × Sts) := fun ρ => (f (mask ρ)).bind fun x => M.pure (.d x, ρ)
def vView (f : Env' → M D) : Sts → M (EV × Sts) := fun ρ => (f (view ρ)).bind fun x => (M.lift (scalD x)).bind fun x => M.pure (.d x, ρ)
def vNew (f : Env' → M (List D)) : Sts → M (EV × Sts) := fun ρ => (f (mask ρ)).bind fun xs => M.pure (.ol xs, ρ)

/-- a new list -/
def GoodN (X : Cx) (fa : Option FA) (W : XK) (F H : Hp) (r : Res (List D)) (Q : VK) : Prop :=
  match r with
  | .bad => False
  | .ok xs s' => ∀ p vs F' H', Ext fa F H F' H' → FeedOk X.K fa F' H' s' → H p = none → F' p = none → H' p = some (.lst vs) → RepL X.K fa F' xs vs → Q (.ref p) H'
  | .err e s' => ∀ cls dd F' H', Ext fa F H F' H' → FeedOk X.K fa F' H' s' → RepX X.K X.mg fa F' H' e cls dd → W cls dd H'
def NOk (X : Cx) (fa : Option FA) (W : L2.St → XK) (t : TE) (f : Env' → M (List D)) : Prop :=
  ∀ (σ : L2.St) (F H : Hp) (ρ : Env') (s : FS) (Q : VK), Same F H → FeedOk X.K fa F H s → EnvOk X.K fa F σ ρ → GoodN X fa (W σ) F H (f ρ s) Q → t σ H Q
/-- AN EXPRESSION THAT GIVES A NEW LIST -/
def ND (X : Cx) (fa : Option FA) (W : L2.St → XK) (e : Expr) (f : Env' → M (List D)) : Prop := ∃ t, PE X e t ∧ NOk X fa W t f

section
variable {X : Cx} {fa : Option FA} {W : XK} {Wσ : L2.St → XK} {a b c e o : Expr} {es rest : List Expr} {pos p apos : Pos} {F H F' H' : Hp}
theorem GoodN.tgt {Q : VK} : Tgt X fa W (fun F H (r : Res (List D)) => GoodN X fa W F H r Q) := by
  refine ⟨fun _ _ h => h, fun _ _ _ _ h => h, fun F H F' H' r e h => ?_⟩
  cases r with
  | bad => exact h
  | ok d s => exact fun p vs F2 H2 e2 o2 hp fp hq r => h p vs F2 H2 (e.trans e2) o2 (by
      cases q : H p with
      | none => rfl
      | some u => exact absurd hp (e.al p (by rw [q]; simp))) fp hq r
  | err x s => exact fun c dd F2 H2 e2 => h c dd F2 H2 (e.trans e2)
/-- frozen at once, it is data -/
theorem NOk.tok {t : TE} {f : Env' → M (List D)} (h : NOk X fa Wσ t f) : TOk X fa Wσ t (fun ρ => (f ρ).bind fun xs => M.pure (.lst xs)) := by
  intro σ F H ρ s Q h1 h2 h3 hg
  refine h σ F H ρ s Q h1 h2 h3 ?_
  change Good X fa (Wσ σ) F H ((f ρ s).bnd _) Q at hg
  generalize f ρ s = r at hg
  cases r with
  | bad => exact hg
  | err e s' => exact hg
  | ok xs s' =>
    intro p vs F' H' e fo hp fp hq r
    have ff : Same F' (upd F' p (.lst vs)) := fun b u z => by rw [upd_ne (ne_of_none z fp)]; exact z
    refine hg (.ref p) (upd F' p (.lst vs)) H' ⟨e.ff.trans ff, fun b u z => ?_, e.hh, fun b z => ?_, e.al⟩ (fun φ z => ?_) (.lst upd_same (r.mono ff))
    · by_cases hb : b = p
      · subst hb; rw [upd_same] at z; rw [hq]; exact z
      · rw [upd_ne hb] at z; exact e.fh b u z
    · have : b ≠ p := fun q => z (q ▸ hp)
      rw [upd_ne this]; exact e.fr b z
    · obtain ⟨g1, g2, g3, g4⟩ := fo φ z
      obtain ⟨k1, k2, k3, k4⟩ := h2 φ z
      have : φ.a ≠ p := ne_of_none k3 hp
      exact ⟨by rw [upd_ne this]; exact g1, g2, g3, ff _ _ g4⟩
theorem ND.ed {f : Env' → M (List D)} (h : ND X fa Wσ e f) : ED X fa Wσ e (fun ρ => (f ρ).bind fun xs => M.pure (.lst xs)) := by
  obtain ⟨t, p, k⟩ := h
  exact ⟨t, p, k.tok⟩
def mkN (xs : List D) : Option (List D) := if xs.length ≤ sizeLine then some xs else none
/-- [e, ..], new -/
theorem nd_lst {fl : Env' → M (List D)} (ha : LD X fa Wσ es fl) : ND X fa Wσ (.List es pos) (fun ρ => (fl ρ).bind fun xs => M.lift (mkN xs)) := by
  obtain ⟨ta, pa, ka⟩ := ha
  refine ⟨_, pe_lst pa, fun σ F H ρ s Q h1 h2 h3 h => ?_⟩
  refine ka.then GoodN.tgt h1 h2 h3 h fun x s1 v F1 H1 e1 o1 r1 v1 h' => ?_
  by_cases hl : x.length ≤ sizeLine
  · rw [show mkN x = some x from if_pos hl] at h'
    refine ⟨by rw [← r1.length]; exact hl, fun p hp => ?_⟩
    have fp : F1 p = none := Same.free e1.fh hp
    refine h' p v F1 (upd H1 p (.lst v)) ⟨Same.refl _, fun b u z => ?_, fun b u z _ => ?_, fun _ _ => rfl, fun b z => ?_⟩ (o1.ext_same (Same.refl _) (fun b u z => by rw [upd_ne (ne_of_none z hp)]; exact z) fun _ _ => rfl) hp fp upd_same r1
    · rw [upd_ne (ne_of_none z fp)]; exact e1.fh b u z
    · rw [upd_ne (ne_of_none z hp)]; exact z
    · have : b ≠ p := fun q => z (q ▸ hp)
      rw [upd_ne this]; exact z
  · rw [show mkN x = none from if_neg hl] at h'
    exact h'.elim

theorem vok_mask {t : TE} {f : Env' → M D} (h : TOk X fa (fun _ => W) t f) : VOk X fa W t (vMask f) := by
  intro B F0 H0 F H A σ vs ρ evs s Q hl S hg
  refine h σ F H (mask ρ) s Q S.ext.fh S.fd (S.mask hl) ?_
  change GoodV X fa W B F0 H0 σ vs evs ((f (mask ρ) s).bnd _) Q at hg
  generalize f (mask ρ) s = r at hg
  cases r with
  | bad => exact hg
  | err e s' => exact fun cls dd F' H' e fo rx => hg cls dd F' H' (S.ext.trans e) fo rx
  | ok x s' => exact fun v F' H' e fo r => hg v F' H' A ((S.step e fo).push r)
theorem vj_mask {f : Env' → M D} (h : ED X fa (fun _ => W) e f) : VJ X fa W e (vMask f) := by
  obtain ⟨t, p, k⟩ := h
  exact ⟨t, p, vok_mask k⟩
theorem scal_rep {K : PySem.W.Frag} {fa : Option FA} {F F' : Hp} {x y : D} {v : V} (h : scalD x = some y) (r : Rep K fa F x v) : Rep K fa F' y v := by
  cases r <;> cases h <;> constructor
theorem vok_view {t : TE} {f : Env' → M D} (h : TOk X fa (fun _ => W) t f) : VOk X fa W t (vView f) := by
  intro B F0 H0 F H A σ vs ρ evs s Q hl S hg
  obtain ⟨ff, fh, fo0, ex0⟩ := S.fp
  refine h σ (Fp F H A (ρ ++ evs)) H (view ρ) s Q fh fo0 (S.view hl) ?_
  change GoodV X fa W B F0 H0 σ vs evs ((f (view ρ) s).bnd _) Q at hg
  generalize f (view ρ) s = r at hg
  cases r with
  | bad => exact hg
  | err e s' => exact fun cls dd F' H' e fo rx => hg cls dd F' H' (ex0.trans e) fo rx
  | ok x s' =>
    intro v F' H' e fo r
    change GoodV X fa W B F0 H0 σ vs evs ((M.lift (scalD x) s').bnd _) Q at hg
    cases q : scalD x with
    | none => rw [q] at hg; exact hg.elim
    | some y =>
      rw [q] at hg
      exact hg v F H' A ((S.back e fo).push (scal_rep q r))
theorem vj_view {f : Env' → M D} (h : ED X fa (fun _ => W) e f) : VJ X fa W e (vView f) := by
  obtain ⟨t, p, k⟩ := h
  exact ⟨t, p, vok_view k⟩
theorem vok_new {t : TE} {f : Env' → M (List D)} (h : NOk X fa (fun _ => W) t f) : VOk X fa W t (vNew f) := by
  intro B F0 H0 F H A σ vs ρ evs s Q hl S hg
  refine h σ F H (mask ρ) s Q S.ext.fh S.fd (S.mask hl) ?_
  change GoodV X fa W B F0 H0 σ vs evs ((f (mask ρ) s).bnd _) Q at hg
  generalize f (mask ρ) s = r at hg
  cases r with
  | bad => exact hg
  | err e s' => exact fun cls dd F' H' e fo rx => hg cls dd F' H' (S.ext.trans e) fo rx
  | ok xs s' =>
    intro p vs' F' H' e fo hp fp hq r
    have S1 := S.step e fo
    have h0 : H0 p = none := by
      cases z : H0 p with
      | none => rfl
      | some u => exact absurd hp (S.ext.al p (by rw [z]; simp))
    refine hg (.ref p) F' H' _ (S1.pushO (ev := .ol xs) (p := p) (fun i ev' hi ho q => ?_) ⟨rfl, fp, h0, fun φ z q => ?_, vs', hq, r⟩)
    · exact ((S.slot i ev' hi).own_at ho).2.2.2.2 (q ▸ hp)
    · obtain ⟨g1, g2, g3, g4⟩ := S.fd φ z
      rw [q, hp] at g3
      cases g3
theorem vj_new {f : Env' → M (List D)} (h : ND X fa (fun _ => W) e f) : VJ X fa W e (vNew f) := by
  obtain ⟨t, p, k⟩ := h
  exact ⟨t, p, vok_new k⟩
def vNewD : Sts → M (EV × Sts) := fun ρ => M.pure (.od [], ρ)
/-- {}, owned -/
theorem vj_dict : VJ X fa W (.Dict [] [] pos) vNewD := by
  refine ⟨_, pe_dnewK, fun B F0 H0 F H A σ vs ρ evs s Q hl S hg p hp => ?_⟩
  have fp : F p = none := Same.free S.ext.fh hp
  have h0 : H0 p = none := by
    cases z : H0 p with
    | none => rfl
    | some u => exact absurd hp (S.ext.al p (by rw [z]; simp))
  have ex : Ext fa F H F (upd H p (.dK [])) := ⟨Same.refl _, fun b u z => by rw [upd_ne (ne_of_none z fp)]; exact S.ext.fh b u z, fun b u z _ => by rw [upd_ne (ne_of_none z hp)]; exact z, fun _ _ => rfl, fun b z => by
    have : b ≠ p := fun q => z (q ▸ hp)
    rw [upd_ne this]; exact z⟩
  have S1 := S.step ex (S.fd.ext_same (Same.refl _) (fun b u z => by rw [upd_ne (ne_of_none z hp)]; exact z) fun _ _ => rfl)
  refine hg (.ref p) F _ _ (S1.pushO (ev := .od []) (p := p) (fun i ev' hi ho q => ?_) ⟨rfl, fp, h0, fun φ z q => ?_, [], upd_same, .nil⟩)
  · exact ((S.slot i ev' hi).own_at ho).2.2.2.2 (q ▸ hp)
  · obtain ⟨g1, g2, g3, g4⟩ := S.fd φ z
    rw [q, hp] at g3
    cases g3

/-! ### what is wanted at a statement -/
/-- as Tgt, for statements' values -/
structure TgtV (X : Cx) (fa : Option FA) (W : XK) (F0 H0 : Hp) {β : Type} (G : Res β → Prop) : Prop where
  bad : ¬ G .bad
  err : ∀ e s, G (.err e s) → ∀ cls dd F' H', Ext fa F0 H0 F' H' → FeedOk X.K fa F' H' s → RepX X.K X.mg fa F' H' e cls dd → W cls dd H'
theorem GoodV.tgt {B F0 H0 : Hp} {σ vs : L2.St} {evs : Sts} {Q : VK} : TgtV X fa W F0 H0 (fun r => GoodV X fa W B F0 H0 σ vs evs r Q) := ⟨fun h => h, fun _ _ h => h⟩
/-- run the value, then the rest -/
theorem VOk.then {t : TE} {f : Sts → M (EV × Sts)} {β : Type} {g : EV × Sts → M β} {G : Res β → Prop} {B F0 H0 F H : Hp} {A : Nat → Addr} {σ vs : L2.St} {ρ evs : Sts} {s : FS} {Q : VK} (h : VOk X fa W t f) (T : TgtV X fa W F0 H0 G) (hl : σ.length = ρ.length)
    (S : SOk X.K fa B F0 H0 F H A (σ ++ vs) (ρ ++ evs) s) (hg : G ((f ρ s).bnd g))
    (k : ∀ ev ρ' s' w F' H' A', SOk X.K fa B F0 H0 F' H' A' (σ ++ vs ++ [some w]) (ρ' ++ evs ++ [ev]) s' → σ.length = ρ'.length → G (g (ev, ρ') s') → Q w H') : t σ H Q := by
  refine h B F0 H0 F H A σ vs ρ evs s Q hl S ?_
  generalize f ρ s = r at hg
  cases r with
  | bad => exact absurd hg T.bad
  | err e s' => exact T.err e s' hg
  | ok q s' =>
    intro w F' H' A' S'
    have l1 := S'.len
    have l2 := S.len
    simp only [List.length_append, List.length_singleton] at l1 l2
    exact k q.1 q.2 s' w F' H' A' S' (by omega) hg
end

/-! ### statements -/
inductive Fl where
  | nx
  | rt (d : D)
  | bk
  | ct
def GoodS (X : Cx) (fa : Option FA) (W : XK) (B F0 H0 : Hp) (r : Res (Fl × Sts)) (Dn : Ends) : Prop :=
  match r with
  | .bad => False
  | .ok p s' =>
    match p.1 with
    | .nx => ∀ σ' F' H' A', SOk X.K fa B F0 H0 F' H' A' σ' p.2 s' → Dn.nx σ' H'
    | .bk => ∀ σ' F' H' A', SOk X.K fa B F0 H0 F' H' A' σ' p.2 s' → Dn.bk σ' H'
    | .ct => ∀ σ' F' H' A', SOk X.K fa B F0 H0 F' H' A' σ' p.2 s' → Dn.ct σ' H'
    | .rt d => ∀ v F' H', Ext fa F0 H0 F' H' → FeedOk X.K fa F' H' s' → Rep X.K fa F' d v → (∃ F2 A2 σ2, SOk X.K fa B F0 H0 F2 H' A2 σ2 p.2 s') → Dn.rt v H'
  | .err e s' => ∀ cls dd F' H', Ext fa F0 H0 F' H' → FeedOk X.K fa F' H' s' → RepX X.K X.mg fa F' H' e cls dd → W cls dd H'
def SOkT (X : Cx) (fa : Option FA) (W : XK) (t : TS) (g : Sts → M (Fl × Sts)) : Prop :=
  ∀ (B F0 H0 F H : Hp) (A : Nat → Addr) (σ : L2.St) (ρ : Sts) (s : FS) (Dn : Ends), SOk X.K fa B F0 H0 F H A σ ρ s → GoodS X fa W B F0 H0 (g ρ s) Dn → t Dn σ H
/-- A STATEMENT DOES g -/
def SJ (X : Cx) (fa : Option FA) (W : XK) (st : Stmt) (g : Sts → M (Fl × Sts)) : Prop := ∃ t, PS X st t ∧ SOkT X fa W t g
def SSJ (X : Cx) (fa : Option FA) (W : XK) (st : List Stmt) (g : Sts → M (Fl × Sts)) : Prop := ∃ t, PSs X st t ∧ SOkT X fa W t g

def gNext : Sts → M (Fl × Sts) := fun ρ => M.pure (.nx, ρ)
def gSeq (g g' : Sts → M (Fl × Sts)) : Sts → M (Fl × Sts) := fun ρ => (g ρ).bind fun p => match p.1 with
  | .nx => g' p.2
  | _ => M.pure p
def gSet (i : Nat) (f : Sts → M (EV × Sts)) : Sts → M (Fl × Sts) := fun ρ => (f ρ).bind fun p => M.pure (.nx, p.2.set i p.1)
def gDrop (f : Sts → M (EV × Sts)) : Sts → M (Fl × Sts) := fun ρ => (f ρ).bind fun p => M.pure (.nx, p.2)
def gIf (c : Env' → M Bool) (g g' : Sts → M (Fl × Sts)) : Sts → M (Fl × Sts) := fun ρ => (c (view ρ)).bind fun k => if k = true then g ρ else g' ρ
def gRet (f : Env' → M D) : Sts → M (Fl × Sts) := fun ρ => (f (view ρ)).bind fun x => M.pure (.rt x, ρ)
def gRetN : Sts → M (Fl × Sts) := fun ρ => M.pure (.rt .non, ρ)
def gBreak : Sts → M (Fl × Sts) := fun ρ => M.pure (.bk, ρ)
def gCont : Sts → M (Fl × Sts) := fun ρ => M.pure (.ct, ρ)
def frz (i : Nat) (ρ : Sts) : Sts := match ρ[i]? with
  | some ev => ρ.set i ev.fz
  | none => ρ
def gFrz (i : Nat) (g : Sts → M (Fl × Sts)) : Sts → M (Fl × Sts) := fun ρ => g (frz i ρ)

section
variable {X : Cx} {fa : Option FA} {W : XK} {a b c e o : Expr} {es rest : List Expr} {pos p apos : Pos} {st : Stmt} {sts sts' : List Stmt} {g g' : Sts → M (Fl × Sts)} {f : Sts → M (EV × Sts)} {B B' F0 H0 : Hp} {Dn : Ends}
theorem GoodS.tgt : TgtV X fa W F0 H0 (fun r => GoodS X fa W B F0 H0 r Dn) := ⟨fun h => h, fun _ _ h => h⟩
theorem GoodS.base (b : Same B B') {r : Res (Fl × Sts)} (h : GoodS X fa W B F0 H0 r Dn) : GoodS X fa W B' F0 H0 r Dn := by
  cases r with
  | bad => exact h
  | err e s => exact h
  | ok q s =>
    obtain ⟨fl, ρ⟩ := q
    cases fl with
    | nx => exact fun σ' F' H' A' S => h σ' F' H' A' (S.base b)
    | bk => exact fun σ' F' H' A' S => h σ' F' H' A' (S.base b)
    | ct => exact fun σ' F' H' A' S => h σ' F' H' A' (S.base b)
    | rt d => exact fun v F' H' e fo r ⟨F2, A2, σ2, S⟩ => h v F' H' e fo r ⟨F2, A2, σ2, S.base b⟩
theorem ssj_nil : SSJ X fa W [] gNext := ⟨_, pss_nil, fun B F0 H0 F H A σ ρ s Dn S h => h σ F H A S⟩
theorem sokt_seq {t u : TS} (h1 : SOkT X fa W t g) (h2 : SOkT X fa W u g') : SOkT X fa W (tSeq t u) (gSeq g g') := by
  intro B F0 H0 F H A σ ρ s Dn S h
  refine h1 B F0 H0 F H A σ ρ s _ S ?_
  change GoodS X fa W B F0 H0 ((g ρ s).bnd _) Dn at h
  generalize g ρ s = r at h
  cases r with
  | bad => exact h
  | err e s' => exact h
  | ok q s' =>
    obtain ⟨fl, ρ'⟩ := q
    cases fl with
    | nx => exact fun σ' F' H' A' S' => h2 B F0 H0 F' H' A' σ' ρ' s' Dn S' h
    | bk => exact h
    | ct => exact h
    | rt d => exact h
theorem ssj_cons (h1 : SJ X fa W st g) (h2 : SSJ X fa W sts g') : SSJ X fa W (st :: sts) (gSeq g g') := by
  obtain ⟨t, p, k⟩ := h1
  obtain ⟨t', p', k'⟩ := h2
  exact ⟨_, pss_cons p p', sokt_seq k k'⟩
theorem ssj_one (h1 : SJ X fa W st g) : SSJ X fa W [st] g := by
  obtain ⟨t, p, k⟩ := h1
  exact ⟨_, pss_one p, k⟩
/-- slot i is frozen ahead of the rest -/
theorem ssj_frz (i : Nat) (h : SSJ X fa W sts g) : SSJ X fa W sts (gFrz i g) := by
  obtain ⟨t, p, k⟩ := h
  refine ⟨t, p, fun B F0 H0 F H A σ ρ s Dn S hg => ?_⟩
  unfold gFrz frz at hg
  cases e : ρ[i]? with
  | none =>
    rw [e] at hg
    exact k B F0 H0 F H A σ ρ s Dn S hg
  | some ev =>
    rw [e] at hg
    obtain ⟨F', S'⟩ := S.freeze e
    exact k B F0 H0 F' H A σ _ s Dn S' hg
theorem sj_pass : SJ X fa W (.Pass pos) gNext := ⟨_, ps_pass, fun B F0 H0 F H A σ ρ s Dn S h => h σ F H A S⟩
theorem sj_break : SJ X fa W (.Break pos) gBreak := ⟨_, ps_break, fun B F0 H0 F H A σ ρ s Dn S h => h σ F H A S⟩
theorem sj_cont : SJ X fa W (.Continue pos) gCont := ⟨_, ps_continue, fun B F0 H0 F H A σ ρ s Dn S h => h σ F H A S⟩
theorem sj_doc {x : Str} {j : Nat} {pos' : Pos} : SJ X fa W (.Expr (.Constant (.str x) j pos) pos') gNext := ⟨_, ps_doc, fun B F0 H0 F H A σ ρ s Dn S h => h σ F H A S⟩
theorem app0 {α : Type} {l : List α} : l ++ [] = l := List.append_nil l
/-- a name = a value, by the statement's reading -/
theorem sj_asg {te : TE} {i : Nat} (hp : PS X st (tAsg te (gName i))) (hv : VOk X fa W te f) : SJ X fa W st (gSet i f) := by
  refine ⟨_, hp, fun B F0 H0 F H A σ ρ s Dn S hg => ?_⟩
  refine hv.then (vs := []) (evs := []) GoodS.tgt S.len (by rw [app0, app0]; exact S) hg fun ev ρ' s' w F' H' A' S' hl h' => ?_
  rw [app0, app0] at S'
  exact h' _ F' H' _ (S'.pop hl i)
theorem sj_set {i : Nat} {x : Str} {pos' : Pos} (hN : X.N.Nodup) (hv : VJ X fa W e f) (hi : X.N[i]? = some x := by rfl) (hx : Loc X.env.scope x := by first | exact .inl rfl | exact .inr rfl) (hs : swapsWith e (some (.Name x pos')) pos.line X.env = pure false := by rfl)
    (hf : X.fn x = true ∨ X.env.scope.names.lookup x = some .local := by first | exact .inl rfl | exact .inr rfl | assumption) : SJ X fa W (.Assign [.Name x pos'] e pos) (gSet i f) := by
  obtain ⟨t, p, k⟩ := hv
  exact sj_asg (ps_set hN hi hx p hs hf) k
theorem sj_expr (hv : VJ X fa W e f) (hs : swapsWith e none pos.line X.env = pure false := by rfl) : SJ X fa W (.Expr e pos) (gDrop f) := by
  obtain ⟨t, p, k⟩ := hv
  refine ⟨_, ps_expr p hs, fun B F0 H0 F H A σ ρ s Dn S hg => ?_⟩
  refine k.then (vs := []) (evs := []) GoodS.tgt S.len (by rw [app0, app0]; exact S) hg fun ev ρ' s' w F' H' A' S' hl h' => ?_
  rw [app0, app0] at S'
  exact h' _ F' H' _ (S'.drop hl)
theorem sj_if {c1 : Env' → M Bool} (hc : TD X fa (fun _ => W) c c1) (ha : SSJ X fa W sts g) (hb : SSJ X fa W sts' g') : SJ X fa W (.If c sts sts' pos) (gIf c1 g g') := by
  obtain ⟨tc, pc, kc⟩ := hc
  obtain ⟨ta, pa, ka⟩ := ha
  obtain ⟨tb, pb, kb⟩ := hb
  refine ⟨_, ps_if pc pa pb, fun B F0 H0 F H A σ ρ s Dn S hg => ?_⟩
  obtain ⟨ff, fh, fo0, ex0⟩ := S.fp
  have S0 : SOk X.K fa B F0 H0 F H A (σ ++ []) (ρ ++ []) s := by rw [app0, app0]; exact S
  have en := S0.view S.len
  rw [app0] at en
  refine kc σ (Fp F H A ρ) H (view ρ) s _ fh fo0 en ?_
  change GoodS X fa W B F0 H0 ((c1 (view ρ) s).bnd _) Dn at hg
  generalize c1 (view ρ) s = r at hg
  cases r with
  | bad => exact hg
  | err e s' => exact fun cls dd F' H' e fo rx => hg cls dd F' H' (ex0.trans e) fo rx
  | ok k s' =>
    intro F' H' e fo
    have S1 := S.back e fo
    cases k with
    | true => exact iteT (ka B F0 H0 F H' A σ ρ s' Dn S1 hg)
    | false => exact iteF (kb B F0 H0 F H' A σ ρ s' Dn S1 hg)
theorem sj_ret {f1 : Env' → M D} (ha : ED X fa (fun _ => W) e f1) : SJ X fa W (.Return (some e) pos) (gRet f1) := by
  obtain ⟨ta, pa, ka⟩ := ha
  refine ⟨_, ps_ret pa, fun B F0 H0 F H A σ ρ s Dn S hg => ?_⟩
  obtain ⟨ff, fh, fo0, ex0⟩ := S.fp
  have S0 : SOk X.K fa B F0 H0 F H A (σ ++ []) (ρ ++ []) s := by rw [app0, app0]; exact S
  have en := S0.view S.len
  rw [app0] at en
  refine ka σ (Fp F H A ρ) H (view ρ) s _ fh fo0 en ?_
  change GoodS X fa W B F0 H0 ((f1 (view ρ) s).bnd _) Dn at hg
  generalize f1 (view ρ) s = r at hg
  cases r with
  | bad => exact hg
  | err e s' => exact fun cls dd F' H' e fo rx => hg cls dd F' H' (ex0.trans e) fo rx
  | ok x s' => exact fun v F' H' e fo r => hg v F' H' (ex0.trans e) fo r ⟨F, A, σ, S.back e fo⟩
theorem sj_retN : SJ X fa W (.Return none pos) gRetN := ⟨_, ps_retN, fun B F0 H0 F H A σ ρ s Dn S h => h .non F H S.ext S.fd .non ⟨F, A, σ, S⟩⟩
end
end DL

set_option Elab.async false
set_option linter.all false
set_option maxRecDepth 100000
set_option maxHeartbeats 2000000
/-! The data layer: targets, what is walked, for, comprehensions. -/
namespace DL
open PySem PySem.Spec PyProof.Rows L2

/-! ### targets -/
abbrev Asg := List (Nat × D)
inductive RepA (K : PySem.W.Frag) (fa : Option FA) (F : Hp) : Asg → List (Nat × V) → Prop
  | nil : RepA K fa F [] []
  | cons {i : Nat} {d : D} {v : V} {as : Asg} {ws : List (Nat × V)} : Rep K fa F d v → RepA K fa F as ws → RepA K fa F ((i, d) :: as) ((i, v) :: ws)
def setV : List (Nat × V) → L2.St → L2.St
  | [], σ => σ
  | (i, v) :: r, σ => setV r (σ.set i (some v))
def setE : Asg → Env' → Env'
  | [], ρ => ρ
  | (i, d) :: r, ρ => setE r (ρ.set i (some d))
def setS : Asg → Sts → Sts
  | [], ρ => ρ
  | (i, d) :: r, ρ => setS r (ρ.set i (.d d))
section
variable {K : PySem.W.Frag} {fa : Option FA} {B F0 H0 F H : Hp} {s : FS}
theorem RepA.append {as bs : Asg} {ws us : List (Nat × V)} (a : RepA K fa F as ws) (b : RepA K fa F bs us) : RepA K fa F (as ++ bs) (ws ++ us) := by
  induction a with
  | nil => exact b
  | cons r _ ih => exact .cons r ih
theorem setV_append : ∀ (ws us : List (Nat × V)) (σ : L2.St), setV (ws ++ us) σ = setV us (setV ws σ)
  | [], _, _ => rfl
  | (i, v) :: r, us, σ => setV_append r us _
theorem EnvOk.setE {as : Asg} {ws : List (Nat × V)} (r : RepA K fa F as ws) : ∀ {σ : L2.St} {ρ : Env'}, EnvOk K fa F σ ρ → EnvOk K fa F (setV ws σ) (DL.setE as ρ) := by
  induction r with
  | nil => exact fun h => h
  | cons r _ ih => exact fun h => ih (h.set r)
theorem SOk.set {A : Nat → Addr} {σ : L2.St} {ρ : Sts} (S : SOk K fa B F0 H0 F H A σ ρ s) {x : D} {v : V} (r : Rep K fa F x v) (i : Nat) : ∃ A', SOk K fa B F0 H0 F H A' (σ.set i (some v)) (ρ.set i (.d x)) s :=
  ⟨_, (S.push r).pop S.len i⟩
theorem SOk.setS {as : Asg} {ws : List (Nat × V)} (r : RepA K fa F as ws) : ∀ {A : Nat → Addr} {σ : L2.St} {ρ : Sts}, SOk K fa B F0 H0 F H A σ ρ s → ∃ A', SOk K fa B F0 H0 F H A' (setV ws σ) (DL.setS as ρ) s := by
  induction r with
  | nil => exact fun h => ⟨_, h⟩
  | cons r _ ih =>
    intro A σ ρ h
    obtain ⟨A', h'⟩ := h.set r _
    exact ih h'
end
def GOk (X : Cx) (ns : List Nat) (g : TG) (b : D → Option Asg) : Prop :=
  ∀ (fa : Option FA) (F H : Hp) (x : D) (v : V) (σ : L2.St) (Q : L2.St → Hp → Prop) (as : Asg), Same F H → Rep X.K fa F x v → b x = some as → (∀ ws, RepA X.K fa F as ws → as.map (·.1) = ns → Q (setV ws σ) H) → g v σ H Q
def GsOk (X : Cx) (ns : List Nat) (g : TGs) (b : List D → Option Asg) : Prop :=
  ∀ (fa : Option FA) (F H : Hp) (x : List D) (v : List V) (σ : L2.St) (Q : L2.St → Hp → Prop) (as : Asg), Same F H → RepL X.K fa F x v → b x = some as → (∀ ws, RepA X.K fa F as ws → as.map (·.1) = ns → Q (setV ws σ) H) → g v σ H Q
/-- A TARGET: it takes an item apart into slots ns -/
def TJ (X : Cx) (tg : Expr) (ns : List Nat) (b : D → Option Asg) : Prop := ∃ g, PG X tg g ∧ GOk X ns g b
def TsJ (X : Cx) (ts : List Expr) (ns : List Nat) (b : List D → Option Asg) : Prop := ∃ g, PGs X ts g ∧ GsOk X ns g b
def bName (i : Nat) : D → Option Asg := fun x => some [(i, x)]
def bNil : List D → Option Asg
  | [] => some []
  | _ => none
def bCons (b : D → Option Asg) (bs : List D → Option Asg) : List D → Option Asg
  | [] => none
  | x :: xs => (b x).bind fun a => (bs xs).bind fun r => some (a ++ r)
def bTup (bs : List D → Option Asg) : D → Option Asg
  | .tup xs => bs xs
  | _ => none
section
variable {X : Cx} {tg e iter : Expr} {ts es : List Expr} {ns ms : List Nat} {b : D → Option Asg} {bs : List D → Option Asg} {pos : Pos}
theorem tj_name {i : Nat} {x : Str} (hN : X.N.Nodup) (hi : X.N[i]? = some x := by rfl) (hx : Loc X.env.scope x := by first | exact .inl rfl | exact .inr rfl) (hf : X.fn x = true ∨ X.env.scope.names.lookup x = some .local := by first | exact .inl rfl | exact .inr rfl | assumption) : TJ X (.Name x pos) [i] (bName i) := by
  refine ⟨_, pg_name hN hi hx hf, fun fa F H x v σ Q as h r e k => ?_⟩
  cases e
  exact k [(i, v)] (.cons r .nil) rfl
theorem tsj_nil : TsJ X [] [] bNil := by
  refine ⟨_, pgs_nil, fun fa F H x v σ Q as h r e k => ?_⟩
  cases r with
  | nil => cases e; exact ⟨rfl, k [] .nil rfl⟩
  | cons _ _ => cases e
theorem tsj_cons (h1 : TJ X tg ns b) (h2 : TsJ X ts ms bs) (hs : (assignEach (tg :: ts) X.env).map (·.2) = assign tg X.env :: (assignEach ts X.env).map (·.2) := by rfl) : TsJ X (tg :: ts) (ns ++ ms) (bCons b bs) := by
  obtain ⟨g, p, k⟩ := h1
  obtain ⟨g', p', k'⟩ := h2
  refine ⟨_, pgs_cons p p' hs, fun fa F H x v σ Q as h r e q => ?_⟩
  cases r with
  | nil => cases e
  | @cons d v ds vs r rr =>
    change ((b d).bind fun a => (bs ds).bind fun r => some (a ++ r)) = some as at e
    cases e1 : b d with
    | none => rw [e1] at e; cases e
    | some a1 =>
      rw [e1] at e
      change ((bs ds).bind fun r => some (a1 ++ r)) = some as at e
      cases e2 : bs ds with
      | none => rw [e2] at e; cases e
      | some a2 =>
        rw [e2] at e
        cases e
        refine ⟨_, _, rfl, k fa F H d v σ _ a1 h r e1 fun ws hw hn => k' fa F H ds vs _ Q a2 h rr e2 fun us hu hm => ?_⟩
        rw [← setV_append]
        exact q _ (hw.append hu) (by rw [List.map_append, hn, hm])
theorem tj_tup {k : Nat} {n : Nat} (hc : X.calm = true) (h : TsJ X es ns bs) (hl : ∀ xs as, bs xs = some as → xs.length = n) (hn : (assignEach es X.env).length = n := by rfl) (hst : (assignEach es X.env).findIdx? (·.1) = none := by rfl) : TJ X (.Tuple es k pos) ns (bTup bs) := by
  obtain ⟨g, p, kk⟩ := h
  refine ⟨_, pg_tup hc p hn hst, fun fa F H x v σ Q as h r e q => ?_⟩
  cases r with
  | tup ht rl => exact ⟨_, _, rfl, same_seqT h ht, by rw [← rl.length]; exact hl _ _ e, kk fa F H _ _ σ Q as h rl e q⟩
  | _ => cases e
theorem bNil_len : ∀ xs as, bNil xs = some as → xs.length = 0
  | [], _, _ => rfl
  | _ :: _, _, h => by cases h
theorem bCons_len {n : Nat} {b : D → Option Asg} {bs : List D → Option Asg} (h : ∀ xs as, bs xs = some as → xs.length = n) : ∀ xs as, bCons b bs xs = some as → xs.length = n + 1
  | [], _, q => by cases q
  | x :: xs, as, q => by
    change ((b x).bind fun a => (bs xs).bind fun r => some (a ++ r)) = some as at q
    cases e1 : b x with
    | none => rw [e1] at q; cases q
    | some a1 =>
      rw [e1] at q
      change ((bs xs).bind fun r => some (a1 ++ r)) = some as at q
      cases e2 : bs xs with
      | none => rw [e2] at q; cases q
      | some a2 => exact congrArg (· + 1) (h xs a2 e2)
end

/-! ### what is walked -/
structure WJ (K : PySem.W.Frag) (fa : Option FA) (J : It) (F : Hp) (xs : List D) : Prop where
  ex : ∃ G Y, Walk J xs.length G Y ∧ (∀ F2 H2, Same F F2 → Same F2 H2 → G H2) ∧
    ∀ (i : Nat) x F2 H2 v H3, xs[i]? = some x → Same F F2 → Same F2 H2 → Y i H2 v H3 → ∃ F3, Same F2 F3 ∧ Same F3 H3 ∧ Same H2 H3 ∧ (∀ b, H2 b ≠ none → F3 b = F2 b) ∧ Rep K fa F3 x v
def GoodI (X : Cx) (fa : Option FA) (W : XK) (F H : Hp) (r : Res (List D)) (R : It → Hp → Prop) : Prop :=
  match r with
  | .bad => False
  | .ok xs s' => ∀ J F' H', Ext fa F H F' H' → FeedOk X.K fa F' H' s' → WJ X.K fa J F' xs → R J H'
  | .err e s' => ∀ cls dd F' H', Ext fa F H F' H' → FeedOk X.K fa F' H' s' → RepX X.K X.mg fa F' H' e cls dd → W cls dd H'
def IOk (X : Cx) (fa : Option FA) (W : L2.St → XK) (wi : TI) (f : Env' → M (List D)) : Prop :=
  ∀ (σ : L2.St) (F H : Hp) (ρ : Env') (s : FS) (R : It → Hp → Prop), Same F H → FeedOk X.K fa F H s → EnvOk X.K fa F σ ρ → GoodI X fa (W σ) F H (f ρ s) R → wi σ H R

/-- AN ITERABLE: it gives the items one by one -/
def IJ (X : Cx) (fa : Option FA) (W : L2.St → XK) (tg e : Expr) (f : Env' → M (List D)) : Prop := ∃ wi, PI X tg e wi ∧ IOk X fa W wi f
def iSeq (f : Env' → M D) : Env' → M (List D) := fun ρ => (f ρ).bind fun x => M.lift (seqD x)
def strD : D → Option (List D)
  | .str z => some (z.cps.toList.map fun c => .str ⟨#[c]⟩)
  | _ => none
def iText (f : Env' → M D) : Env' → M (List D) := fun ρ => (f ρ).bind fun x => M.lift (strD x)
/-- lo, lo + 1, .. -/
def rangeD (lo : Int) (n : Nat) : List D := (List.range n).map fun i => .int (lo + (i : Nat))
def rng1 : List D → Option (List D)
  | [.int j] => if -(2 ^ 62) ≤ j ∧ j < 2 ^ 62 then some (rangeD 0 j.toNat) else none
  | _ => none
def rng2 : List D → Option (List D)
  | [.int i, .int j] => if -(2 ^ 62) ≤ i ∧ i < 2 ^ 62 ∧ -(2 ^ 62) ≤ j ∧ j < 2 ^ 62 then some (rangeD i (j - i).toNat) else none
  | _ => none
def iFn (g : List D → Option (List D)) (f : Env' → M (List D)) : Env' → M (List D) := fun ρ => (f ρ).bind fun xs => M.lift (g xs)
def enumD : Nat → List D → List D
  | _, [] => []
  | k, x :: xs => .tup [.int (k : Nat), x] :: enumD (k + 1) xs
def enm : List D → Option (List D)
  | [.lst xs] => some (enumD 0 xs)
  | _ => none
def zipD : List D → List D → List D
  | x :: xs, y :: ys => .tup [x, y] :: zipD xs ys
  | _, _ => []
def zp : List D → Option (List D)
  | [.lst xs, .lst ys] => some (zipD xs ys)
  | [.tup xs, .tup ys] => some (zipD xs ys)
  | _ => none
theorem enumD_get : ∀ (xs : List D) (k i : Nat), (enumD k xs)[i]? = xs[i]?.map fun x => .tup [.int ((k + i : Nat) : Int), x]
  | [], k, i => by simp [enumD]
  | x :: xs, k, 0 => by simp [enumD]
  | x :: xs, k, i + 1 => by
    have := enumD_get xs (k + 1) i
    simp only [enumD, List.getElem?_cons_succ, this]
    rw [show k + 1 + i = k + (i + 1) by omega]
theorem enumD_len : ∀ (xs : List D) (k : Nat), (enumD k xs).length = xs.length
  | [], _ => rfl
  | x :: xs, k => congrArg (· + 1) (enumD_len xs (k + 1))
theorem zipD_len : ∀ (xs ys : List D), (zipD xs ys).length = min xs.length ys.length
  | [], _ => by simp [zipD]
  | _ :: _, [] => by simp [zipD]
  | x :: xs, y :: ys => by simp only [zipD, List.length_cons, zipD_len xs ys]; omega
theorem zipD_get : ∀ (xs ys : List D) (i : Nat) (z : D), (zipD xs ys)[i]? = some z → ∃ x y, xs[i]? = some x ∧ ys[i]? = some y ∧ z = .tup [x, y]
  | [], _, _, _, h => by simp [zipD] at h
  | _ :: _, [], _, _, h => by simp [zipD] at h
  | x :: xs, y :: ys, 0, z, h => by simp [zipD] at h; exact ⟨x, y, rfl, rfl, h.symm⟩
  | x :: xs, y :: ys, i + 1, z, h => by
    obtain ⟨a, b, h1, h2, h3⟩ := zipD_get xs ys i z (by simpa [zipD] using h)
    exact ⟨a, b, by simpa using h1, by simpa using h2, h3⟩
section
variable {X : Cx} {fa : Option FA} {W : XK} {Wσ : L2.St → XK} {tg a b c e o : Expr} {es rest : List Expr} {pos p apos : Pos} {F H F' H' : Hp} {fl : Env' → M (List D)} {f1 : Env' → M D}
theorem GoodI.tgt {R : It → Hp → Prop} : Tgt X fa W (fun F H (r : Res (List D)) => GoodI X fa W F H r R) := by
  refine ⟨fun _ _ h => h, fun _ _ _ _ h => h, fun F H F' H' r e h => ?_⟩
  cases r with
  | bad => exact h
  | ok d s => exact fun v F2 H2 e2 => h v F2 H2 (e.trans e2)
  | err x s => exact fun c dd F2 H2 e2 => h c dd F2 H2 (e.trans e2)
/-- nothing is made -/
theorem wj_here {J : It} {xs : List D} {G : Hp → Prop} {Y : Nat → Hp → V → Hp → Prop} (w : Walk J xs.length G Y) (hG : ∀ F2 H2, Same F F2 → Same F2 H2 → G H2)
    (hY : ∀ (i : Nat) x F2 H2 v H3, xs[i]? = some x → Same F F2 → Same F2 H2 → Y i H2 v H3 → H3 = H2 ∧ Rep X.K fa F2 x v) : WJ X.K fa J F xs :=
  ⟨⟨G, Y, w, hG, fun i x F2 H2 v H3 hx h1 h2 y => by
    obtain ⟨rfl, r⟩ := hY i x F2 H2 v H3 hx h1 h2 y
    exact ⟨F2, Same.refl _, h2, Same.refl _, fun _ _ => rfl, r⟩⟩⟩
/-- pairs are made -/
theorem wj_pair {J : It} {xs : List D} {G : Hp → Prop} {u w' : Nat → Option V} (w : Walk J xs.length G (YPair u w')) (hG : ∀ F2 H2, Same F F2 → Same F2 H2 → G H2)
    (hY : ∀ (i : Nat) x, xs[i]? = some x → ∃ d e, x = .tup [d, e] ∧ (∀ F2 v, Same F F2 → u i = some v → Rep X.K fa F2 d v) ∧ ∀ F2 v, Same F F2 → w' i = some v → Rep X.K fa F2 e v) : WJ X.K fa J F xs :=
  ⟨⟨G, _, w, hG, fun i x F2 H2 v H3 hx h1 h2 y => by
    obtain ⟨T, x1, x2, rfl, hT, rfl, q1, q2⟩ := y
    obtain ⟨d, e, rfl, r1, r2⟩ := hY i x hx
    have ex : Ext (none : Option FA) F2 H2 (upd F2 T (.tup [x1, x2])) (upd H2 T (.tup [x1, x2])) := Ext.new h2 hT
    exact ⟨_, ex.ff, ex.fh, fun b o q => ex.hh b o q (fun _ z => nomatch z), ex.fr, .tup (SqT.of upd_same) (.cons ((r1 F2 x1 h1 q1).mono ex.ff) (.cons ((r2 F2 x2 h1 q2).mono ex.ff) .nil))⟩⟩⟩
theorem wj_list {a : Addr} {xs : List D} {vs : List V} (h : F a = some (.lst vs)) (r : RepL X.K fa F xs vs) : WJ X.K fa (Itl X.K a) F xs := by
  refine wj_here (Y := YAt vs) (by rw [r.length]; exact walk_list (xs := vs)) (fun F2 H2 h1 h2 => SqL.of (h2 _ _ (h1 _ _ h))) fun i x F2 H2 v H3 hx h1 h2 y => ⟨y.1, ?_⟩
  obtain ⟨d, hd, rd⟩ := r.get y.2
  rw [hx] at hd
  cases hd
  exact rd.mono h1
theorem wj_tup {a : Addr} {xs : List D} {vs : List V} (h : SqT X.K F a vs) (r : RepL X.K fa F xs vs) : WJ X.K fa (Itt X.K a) F xs := by
  refine wj_here (Y := YAt vs) (by rw [r.length]; exact walk_tup (xs := vs)) (fun F2 H2 h1 h2 => same_seqT h2 (same_seqT h1 h)) fun i x F2 H2 v H3 hx h1 h2 y => ⟨y.1, ?_⟩
  obtain ⟨d, hd, rd⟩ := r.get y.2
  rw [hx] at hd
  cases hd
  exact rd.mono h1
theorem PI.or {wi wi' : TI} (h : PI X tg e wi) (h' : PI X tg e wi') : PI X tg e (fun σ H R => wi σ H R ∨ wi' σ H R) :=
  ⟨fun pins s σ H R I q => q.elim (h.run pins s σ H R I) (h'.run pins s σ H R I)⟩
/-- a list or a tuple -/
theorem ij_seq (h : ED X fa Wσ e f1) : IJ X fa Wσ tg e (iSeq f1) := by
  obtain ⟨t, p, k⟩ := h
  refine ⟨_, PI.or (pi_list p) (pi_tup p), fun σ F H ρ s R h1 h2 h3 hg => ?_⟩
  change GoodI X fa (Wσ σ) F H ((f1 ρ s).bnd _) R at hg
  cases q : f1 ρ s with
  | bad => rw [q] at hg; exact hg.elim
  | err e s' =>
    rw [q] at hg
    refine .inl (k σ F H ρ s _ h1 h2 h3 ?_)
    rw [q]
    exact hg
  | ok x s' =>
    rw [q] at hg
    cases x with
    | lst xs =>
      refine .inl (k σ F H ρ s _ h1 h2 h3 ?_)
      rw [q]
      intro v F' H' e fo r
      cases r with
      | lst hq rl => exact ⟨_, rfl, ⟨_, SqL.of (e.fh _ _ hq)⟩, hg _ F' H' e fo (wj_list hq rl)⟩
    | tup xs =>
      refine .inr (k σ F H ρ s _ h1 h2 h3 ?_)
      rw [q]
      intro v F' H' e fo r
      cases r with
      | tup hq rl => exact ⟨_, rfl, ⟨_, same_seqT e.fh hq⟩, hg _ F' H' e fo (wj_tup hq rl)⟩
    | _ => exact hg.elim
theorem ij_text (h : ED X fa Wσ e f1) : IJ X fa Wσ tg e (iText f1) := by
  obtain ⟨t, p, k⟩ := h
  refine ⟨_, pi_str p, fun σ F H ρ s R h1 h2 h3 hg => ?_⟩
  refine k.then GoodI.tgt h1 h2 h3 hg fun x s1 v F1 H1 e1 o1 r1 v1 h' => ?_
  change GoodI X fa (Wσ σ) F1 H1 (M.lift (strD x) s1) R at h'
  cases r1 with
  | str z =>
    refine ⟨z, rfl, h' _ F1 H1 (Ext.refl e1.fh) o1 (wj_here (xs := z.cps.toList.map fun c => .str ⟨#[c]⟩) (Y := fun i H v H' => H' = H ∧ ∃ c, z.cps[i]? = some c ∧ v = .str ⟨#[c]⟩) (by rw [List.length_map]; exact walk_str (z := z)) (fun _ _ _ _ => trivial) fun i x F2 H2 v H3 hx h1 h2 y => ⟨y.1, ?_⟩)⟩
    obtain ⟨c, hc, rfl⟩ := y.2
    rw [List.getElem?_map, Array.getElem?_toList, hc] at hx
    cases hx
    exact .str _
  | _ => exact h'.elim
theorem rangeD_get {lo : Int} {n i : Nat} {x : D} (h : (rangeD lo n)[i]? = some x) : x = .int (lo + (i : Nat)) := by
  unfold rangeD at h
  rw [List.getElem?_map] at h
  cases q : (List.range n)[i]? with
  | none => rw [q] at h; cases h
  | some j =>
    rw [q] at h
    obtain ⟨hl, e⟩ := List.getElem?_eq_some_iff.mp q
    rw [List.getElem_range] at e
    subst e
    exact (Option.some.inj h).symm
theorem wj_range {lo : Int} {n : Nat} : WJ X.K fa (Itr lo n) F (rangeD lo n) := by
  refine wj_here (Y := YFn fun i => .int (lo + (i : Nat))) (by rw [show (rangeD lo n).length = n by simp [rangeD]]; exact walk_range) (fun _ _ _ _ => trivial) fun i x F2 H2 v H3 hx h1 h2 y => ⟨y.1, ?_⟩
  rw [rangeD_get hx, y.2]
  exact .int _
theorem ij_range1 (hm : X.mg "range" = none) (ha : LD X fa Wσ [a] fl) (hg : Gl X "range" := by rfl) (hs : starEach [a] X.env = [(false, eval a X.env)] := by rfl) : IJ X fa Wσ tg (.Call (.Name "range" p) [a] [] pos) (iFn rng1 fl) := by
  obtain ⟨t, q, k⟩ := ha
  refine ⟨_, pi_range1 hg hm q hs, fun σ F H ρ s R h1 h2 h3 hg => ?_⟩
  refine k.then GoodI.tgt h1 h2 h3 hg fun x s1 v F1 H1 e1 o1 r1 v1 h' => ?_
  change GoodI X fa (Wσ σ) F1 H1 (M.lift (rng1 x) s1) R at h'
  cases r1 with
  | nil => exact h'.elim
  | cons r rr =>
    cases rr with
    | cons _ _ => cases r <;> exact h'.elim
    | nil =>
      cases r with
      | int j =>
        by_cases hj : -(2 ^ 62) ≤ j ∧ j < 2 ^ 62
        · rw [show rng1 [.int j] = some (rangeD 0 j.toNat) from if_pos hj] at h'
          exact ⟨j, rfl, hj.1, hj.2, h' _ F1 H1 (Ext.refl e1.fh) o1 wj_range⟩
        · rw [show rng1 [.int j] = none from if_neg hj] at h'
          exact h'.elim
      | _ => exact h'.elim
theorem ij_range2 (hm : X.mg "range" = none) (ha : LD X fa Wσ [a, b] fl) (hg : Gl X "range" := by rfl) (hs : starEach [a, b] X.env = [(false, eval a X.env), (false, eval b X.env)] := by rfl) (hs2 : starEach [b] X.env = [(false, eval b X.env)] := by rfl) : IJ X fa Wσ tg (.Call (.Name "range" p) [a, b] [] pos) (iFn rng2 fl) := by
  obtain ⟨t, q, k⟩ := ha
  refine ⟨_, pi_range2 hg hm q hs hs2, fun σ F H ρ s R h1 h2 h3 hg => ?_⟩
  refine k.then GoodI.tgt h1 h2 h3 hg fun x s1 v F1 H1 e1 o1 r1 v1 h' => ?_
  change GoodI X fa (Wσ σ) F1 H1 (M.lift (rng2 x) s1) R at h'
  cases r1 with
  | nil => exact h'.elim
  | cons r rr =>
    cases rr with
    | nil => cases r <;> exact h'.elim
    | cons r' rr =>
      cases rr with
      | cons _ _ => cases r <;> cases r' <;> exact h'.elim
      | nil =>
        cases r with
        | int i =>
          cases r' with
          | int j =>
            by_cases hj : -(2 ^ 62) ≤ i ∧ i < 2 ^ 62 ∧ -(2 ^ 62) ≤ j ∧ j < 2 ^ 62
            · rw [show rng2 [.int i, .int j] = some (rangeD i (j - i).toNat) from if_pos hj] at h'
              exact ⟨i, j, rfl, hj, h' _ F1 H1 (Ext.refl e1.fh) o1 wj_range⟩
            · rw [show rng2 [.int i, .int j] = none from if_neg hj] at h'
              exact h'.elim
          | _ => exact h'.elim
        | _ => exact h'.elim
theorem ij_enum {elts : List Expr} {kk : Nat} {tpos : Pos} (hm : X.mg "enumerate" = none) (ha : LD X fa Wσ [e] fl) (hg : Gl X "enumerate" := by rfl) (hs : starEach [e] X.env = [(false, eval e X.env)] := by rfl) : IJ X fa Wσ (.Tuple elts kk tpos) (.Call (.Name "enumerate" p) [e] [] pos) (iFn enm fl) := by
  obtain ⟨t, q, k⟩ := ha
  refine ⟨_, pi_enum hg hm q hs, fun σ F H ρ s R h1 h2 h3 hg => ?_⟩
  refine k.then GoodI.tgt h1 h2 h3 hg fun x s1 v F1 H1 e1 o1 r1 v1 h' => ?_
  change GoodI X fa (Wσ σ) F1 H1 (M.lift (enm x) s1) R at h'
  cases r1 with
  | nil => exact h'.elim
  | cons r rr =>
    cases rr with
    | cons _ _ => cases r <;> exact h'.elim
    | nil =>
      cases r with
      | @lst a xs vs hq rl =>
        refine ⟨a, vs, rfl, SqL.of (e1.fh _ _ hq), h' _ F1 H1 (Ext.refl e1.fh) o1 (wj_pair (xs := enumD 0 xs) (by rw [enumD_len, rl.length]; exact walk_enum (xs := vs)) (fun F2 H2 h1 h2 => SqL.of (h2 _ _ (h1 _ _ hq))) fun i x hx => ?_)⟩
        rw [enumD_get] at hx
        cases qx : xs[i]? with
        | none => rw [qx] at hx; cases hx
        | some y =>
          rw [qx] at hx
          cases hx
          refine ⟨_, _, rfl, fun F2 v h1 hv => ?_, fun F2 v h1 hv => ?_⟩
          · cases hv
            rw [Nat.zero_add]
            exact .int _
          · obtain ⟨d, hd, rd⟩ := rl.get hv
            rw [qx] at hd
            cases hd
            exact rd.mono h1
      | _ => exact h'.elim
theorem wj_zip {J : It} {xs ys : List D} {us ws : List V} {G : Hp → Prop} (w : ∀ n, n = min us.length ws.length → Walk J n G (YPair (fun i => us[i]?) (fun i => ws[i]?))) (hG : ∀ F2 H2, Same F F2 → Same F2 H2 → G H2) (r1 : RepL X.K fa F xs us) (r2 : RepL X.K fa F ys ws) : WJ X.K fa J F (zipD xs ys) := by
  refine wj_pair (w _ (by rw [zipD_len, r1.length, r2.length])) hG fun i x hx => ?_
  obtain ⟨d, e, h1, h2, rfl⟩ := zipD_get xs ys i x hx
  refine ⟨d, e, rfl, fun F2 v h hv => ?_, fun F2 v h hv => ?_⟩
  · obtain ⟨d', hd, rd⟩ := r1.get hv
    rw [h1] at hd
    cases hd
    exact rd.mono h
  · obtain ⟨d', hd, rd⟩ := r2.get hv
    rw [h2] at hd
    cases hd
    exact rd.mono h
theorem walk_zipT {K : PySem.W.Frag} {a b : Addr} {xs ys : List V} {n : Nat} (hn : n = min xs.length ys.length) : Walk (RZ.ItzT K a b) n (fun H => SqT K H a xs ∧ SqT K H b ys) (YPair (fun i => xs[i]?) (fun i => ys[i]?)) := by
  subst hn
  refine ⟨fun i _ hi q => ?_, fun _ q => ⟨xs, ys, q.1, q.2, by omega⟩, fun i H v H' _ q y => ?_⟩
  · have h1 : i < xs.length := by omega
    have h2 : i < ys.length := by omega
    exact ⟨xs, ys, xs[i], ys[i], q.1, q.2, by simp [h1], by simp [h2]⟩
  · obtain ⟨T, x, z, h1, h2, h3, h4, h5⟩ := y
    exact ⟨T, x, z, h1, h2, h3, h4 xs q.1, h5 ys q.2⟩
theorem ij_zip {elts : List Expr} {kk : Nat} {tpos : Pos} (hm : X.mg "zip" = none) (ha : LD X fa Wσ [a, b] fl) (hg : Gl X "zip" := by rfl) (hs : starEach [a, b] X.env = (false, eval a X.env) :: starEach [b] X.env := by rfl) (hs2 : (backTo pos (starEach [b] X.env)).any (·.1) = false := by rfl) : IJ X fa Wσ (.Tuple elts kk tpos) (.Call (.Name "zip" p) [a, b] [] pos) (iFn zp fl) := by
  obtain ⟨t, q, k⟩ := ha
  refine ⟨_, RZ.pi_zipA hg hm q hs hs2, fun σ F H ρ s R h1 h2 h3 hg => ?_⟩
  refine k.then GoodI.tgt h1 h2 h3 hg fun x s1 v F1 H1 e1 o1 r1 v1 h' => ?_
  change GoodI X fa (Wσ σ) F1 H1 (M.lift (zp x) s1) R at h'
  cases r1 with
  | nil => exact h'.elim
  | cons r rr =>
    cases rr with
    | nil => cases r <;> exact h'.elim
    | cons r' rr =>
      cases rr with
      | cons _ _ => cases r <;> cases r' <;> exact h'.elim
      | nil =>
        cases r with
        | lst hq rl =>
          cases r' with
          | lst hq' rl' => exact ⟨_, _, _, _, rfl, .inl ⟨SqL.of (e1.fh _ _ hq), SqL.of (e1.fh _ _ hq'), h' _ F1 H1 (Ext.refl e1.fh) o1 (wj_zip (fun n hn => walk_zip hn) (fun F2 H2 h1 h2 => ⟨SqL.of (h2 _ _ (h1 _ _ hq)), SqL.of (h2 _ _ (h1 _ _ hq'))⟩) rl rl')⟩⟩
          | _ => exact h'.elim
        | tup hq rl =>
          cases r' with
          | tup hq' rl' => exact ⟨_, _, _, _, rfl, .inr ⟨same_seqT e1.fh hq, same_seqT e1.fh hq', h' _ F1 H1 (Ext.refl e1.fh) o1 (wj_zip (fun n hn => walk_zipT hn) (fun F2 H2 h1 h2 => ⟨same_seqT h2 (same_seqT h1 hq), same_seqT h2 (same_seqT h1 hq')⟩) rl rl')⟩⟩
          | _ => exact h'.elim
        | _ => cases r' <;> exact h'.elim
end
end DL

set_option Elab.async false
set_option linter.all false
set_option maxRecDepth 100000
set_option maxHeartbeats 2000000
/-! The data layer: for, comprehensions. -/
namespace DL
open PySem PySem.Spec PyProof.Rows L2

/-! ### for -/
def forS (b : D → Option Asg) (g : Sts → M (Fl × Sts)) : List D → Sts → M (Fl × Sts)
  | [], ρ => M.pure (.nx, ρ)
  | x :: xs, ρ => (M.lift (b x)).bind fun as => (g (setS as ρ)).bind fun p => match p.1 with
    | .nx => forS b g xs p.2
    | .ct => forS b g xs p.2
    | .bk => M.pure (.nx, p.2)
    | .rt d => M.pure (.rt d, p.2)
def gFor (it : Env' → M (List D)) (b : D → Option Asg) (g : Sts → M (Fl × Sts)) : Sts → M (Fl × Sts) := fun ρ => (it (mask ρ)).bind fun xs => forS b g xs ρ
section
variable {X : Cx} {fa : Option FA} {W : XK} {tg iter : Expr} {body : List Stmt} {pos : Pos} {it : Env' → M (List D)} {b : D → Option Asg} {g : Sts → M (Fl × Sts)} {ns : List Nat}
theorem ext_same {fa : Option FA} {F H F' H' : Hp} (a : Same F F') (b : Same F' H') (c : Same H H') (d : ∀ b, H b ≠ none → F' b = F b) : Ext fa F H F' H' := ⟨a, b, fun x o e _ => c x o e, d, fun x e => by
  cases q : H x with
  | none => exact absurd q e
  | some o => rw [c x o q]; simp⟩
/-- the loop, once its iterator stands -/
theorem for_go {B F0 H0 F H : Hp} {A : Nat → Addr} {σ : L2.St} {ρ : Sts} {s : FS} {Dn : Ends} {J : It} {xs : List D} {gt : TG} {tb : TS} (S : SOk X.K fa B F0 H0 F H A σ ρ s) (hw : WJ X.K fa J F xs) (hg : GOk X ns gt b) (hb : SOkT X fa W tb g)
    (h : GoodS X fa W B F0 H0 (forS b g xs ρ s) Dn) :
    ∃ W : Nat → Nat → L2.St → Hp → Prop, (∃ m, W 0 m σ H) ∧ ∀ i m σ H, W i m σ H →
      (J.stop i H ∧ Dn.nx σ H) ∨ (J.go i H ∧ ∃ N : L2.St → Hp → Prop, (∀ σ' H', N σ' H' → ∃ m', m' < m ∧ W (i + 1) m' σ' H') ∧ ∀ x H', J.yld i H x H' → gt x σ H' fun σ2 H2 => tb { Dn with nx := N, ct := N, bk := Dn.nx } σ2 H2) := by
  obtain ⟨G, Y, wk, hG, hY⟩ := hw.ex
  have hbase : GoodS X fa W F F0 H0 (forS b g xs ρ s) Dn := GoodS.base S.flr h
  refine for_it wk (fun i σ' H' => ∃ F' A' ρ' s', SOk X.K fa F F0 H0 F' H' A' σ' ρ' s' ∧ GoodS X fa W F F0 H0 (forS b g (xs.drop i) ρ' s') Dn) ⟨F, A, ρ, s, S.floor, hbase⟩ ?_ ?_ ?_
  · rintro i σ' H' _ ⟨F', A', ρ', s', S', _⟩
    exact hG F' H' S'.flr S'.ext.fh
  · rintro i x σ' H' H3 hi ⟨F', A', ρ', s', S', q⟩ y
    have hx : xs[i]? = some xs[i] := List.getElem?_eq_getElem hi
    obtain ⟨F3, a1, a2, a3, a4, r⟩ := hY i _ F' H' x H3 hx S'.flr S'.ext.fh y
    have S3 := S'.step (ext_same a1 a2 a3 a4) (S'.fd.ext_same a1 a3 a4)
    rw [List.drop_eq_getElem_cons hi] at q
    change GoodS X fa W F F0 H0 (((M.lift (b xs[i])).bind _) s') Dn at q
    cases e : b xs[i] with
    | none => rw [e] at q; exact q.elim
    | some as =>
      rw [e] at q
      refine hg fa F3 H3 _ _ σ' _ as S3.ext.fh r e fun ws hws _ => ?_
      obtain ⟨A4, S4⟩ := S3.setS hws
      refine hb F F0 H0 F3 H3 A4 _ _ s' _ S4 ?_
      change GoodS X fa W F F0 H0 ((g (setS as ρ') s').bnd _) Dn at q
      generalize g (setS as ρ') s' = rr at q
      cases rr with
      | bad => exact q
      | err e s'' => exact q
      | ok p s'' =>
        obtain ⟨fl, ρ5⟩ := p
        cases fl with
        | nx => exact fun σ5 F5 H5 A5 S5 => ⟨F5, A5, ρ5, s'', S5, q⟩
        | ct => exact fun σ5 F5 H5 A5 S5 => ⟨F5, A5, ρ5, s'', S5, q⟩
        | bk => exact q
        | rt d => exact q
  · rintro σ' H' ⟨F', A', ρ', s', S', q⟩
    rw [List.drop_length] at q
    exact q σ' F' H' A' S'
theorem sj_for (hp : PassesOwn (model X.prog X.w) X.A X.env X.xe) (hc : X.calm = true) (hi : IJ X fa (fun _ => W) tg iter it) (hg : TJ X tg ns b) (hb : SSJ X fa W body g) (hs : ∀ x, foldedSetIterable iter X.env x = pure x := by intro _; rfl) :
    SJ X fa W (.For tg iter body [] pos) (gFor it b g) := by
  obtain ⟨wi, pi, ki⟩ := hi
  obtain ⟨gt, pg, kg⟩ := hg
  obtain ⟨tb, pb, kb⟩ := hb
  refine ⟨_, ps_for hp hc pi pg pb hs, fun B F0 H0 F H A σ ρ s Dn S hgood => ?_⟩
  have S0 : SOk X.K fa B F0 H0 F H A (σ ++ []) (ρ ++ []) s := by rw [app0, app0]; exact S
  refine ki σ F H (mask ρ) s _ S.ext.fh S.fd (S0.mask S.len) ?_
  change GoodS X fa W B F0 H0 ((it (mask ρ) s).bnd _) Dn at hgood
  generalize it (mask ρ) s = r at hgood
  cases r with
  | bad => exact hgood
  | err e s' => exact fun cls dd F' H' e fo rx => hgood cls dd F' H' (S.ext.trans e) fo rx
  | ok xs s' => exact fun J F' H' e fo w => for_go (S.step e fo) w kg kb hgood
end

/-! ### uniform readings -/
/-- the widest reading of an expression that computes f -/
def tStar (X : Cx) (fa : Option FA) (W : L2.St → XK) (f : Env' → M D) : TE := fun σ H Q => ∃ F ρ s, Same F H ∧ FeedOk X.K fa F H s ∧ EnvOk X.K fa F σ ρ ∧ Good X fa (W σ) F H (f ρ s) Q
def tStarB (X : Cx) (fa : Option FA) (W : L2.St → XK) (f : Env' → M Bool) : TT := fun σ H Q => ∃ F ρ s, Same F H ∧ FeedOk X.K fa F H s ∧ EnvOk X.K fa F σ ρ ∧ GoodB X fa (W σ) F H (f ρ s) Q
def gStar (X : Cx) (ns : List Nat) (b : D → Option Asg) : TG := fun v σ H Q => ∃ (fa : Option FA) (F : Hp) (x : D) (as : Asg), Same F H ∧ Rep X.K fa F x v ∧ b x = some as ∧ ∀ ws, RepA X.K fa F as ws → as.map (·.1) = ns → Q (setV ws σ) H
section
variable {X Z : Cx} {fa : Option FA} {W : L2.St → XK} {e : Expr} {f : Env' → M D} {c : Env' → M Bool} {ns : List Nat} {b : D → Option Asg}
theorem ED.star (h : ED X fa W e f) : PE X e (tStar X fa W f) := by
  obtain ⟨t, p, k⟩ := h
  exact ⟨fun pins s σ H Q I ⟨F, ρ, s', h1, h2, h3, h4⟩ => p.run pins s σ H Q I (k σ F H ρ s' Q h1 h2 h3 h4)⟩
theorem TD.star (h : TD X fa W e c) : PT X e (tStarB X fa W c) := by
  obtain ⟨t, p, k⟩ := h
  exact ⟨fun pins s σ H Q I ⟨F, ρ, s', h1, h2, h3, h4⟩ => p.run pins s σ H Q I (k σ F H ρ s' Q h1 h2 h3 h4)⟩
theorem TJ.star (h : TJ X e ns b) : PG X e (gStar X ns b) := by
  obtain ⟨g, p, k⟩ := h
  exact ⟨fun pins s σ H v u Q I r ⟨fa, F, x, as, h1, h2, h3, h4⟩ => p.run pins s σ H v u Q I r (k fa F H x v σ Q as h1 h2 h3 h4)⟩
end

/-! ### comprehensions -/
def M.quiet {α : Type} (m : M α) : M α := fun s => match m s with
  | .err _ _ => .bad
  | r => r
def cYes : Env' → M Bool := fun _ => M.pure true
def lcE (b : D → Option Asg) (c : Env' → M Bool) (f : Env' → M D) : List D → Env' → M (List D)
  | [], _ => M.pure []
  | x :: xs, ρ => (M.lift (b x)).bind fun as => (c (setE as ρ)).bind fun k => if k = true then (f (setE as ρ)).bind fun y => (lcE b c f xs ρ).bind fun ys => M.pure (y :: ys) else lcE b c f xs ρ
def dLc (it : Env' → M (List D)) (b : D → Option Asg) (c : Env' → M Bool) (f : Env' → M D) : Env' → M (List D) := fun ρ => (it ρ).bind fun xs => if xs.length ≤ sizeLine then M.quiet (lcE b c f xs ρ) else M.bad
theorem bnd_ok {α β : Type} {r : Res α} {g : α → FS → Res β} {y : β} {s : FS} (h : r.bnd g = .ok y s) : ∃ x s1, r = .ok x s1 ∧ g x s1 = .ok y s := by
  cases r with
  | bad => cases h
  | err e s => cases h
  | ok x s1 => exact ⟨x, s1, rfl, h⟩
theorem lift_ok {α : Type} {o : Option α} {s s' : FS} {a : α} (h : M.lift o s = .ok a s') : o = some a ∧ s' = s := by
  cases o with
  | none => cases h
  | some b => cases h; exact ⟨rfl, rfl⟩
def PTsD (X : Cx) (fa : Option FA) (W : L2.St → XK) (ifs : List Expr) (c : Env' → M Bool) : Prop := PTs X ifs (tStarB X fa W c)
def Wno : L2.St → XK := fun _ _ _ _ => False
section
variable {X : Cx} {fa : Option FA} {W : XK} {Wσ : L2.St → XK}
theorem PTsD.star {ifs : List Expr} {c : Env' → M Bool} (h : PTsD X fa Wσ ifs c) : PTs X ifs (tStarB X fa Wσ c) := h
theorem ptd_nil : PTsD X fa Wσ [] cYes := ⟨fun pins s σ H Q I ⟨F, ρ, s', h1, h2, h3, h4⟩ => pts_nil.run pins s σ H Q I (h4 F H (Ext.refl h1) h2)⟩
theorem ptd_one {e : Expr} {c : Env' → M Bool} (h : TD X fa Wσ e c) : PTsD X fa Wσ [e] c := pts_one h.star

def wipeE (ρ : Env') : List Nat → Env'
  | [] => ρ
  | v :: vs => (wipeE ρ vs).set v none
theorem EnvOk.wipe {K : PySem.W.Frag} {F : Hp} {σ : L2.St} {ρ : Env'} (h : EnvOk K fa F σ ρ) : ∀ vs : List Nat, EnvOk K fa F (L2.wipe σ vs) (wipeE ρ vs)
  | [] => h
  | v :: vs => by
    have ih := EnvOk.wipe h vs
    refine ⟨by unfold L2.wipe wipeE; simpa using ih.len, fun i d e => ?_⟩
    unfold wipeE at e
    unfold L2.wipe
    by_cases hi : v = i
    · subst hi
      by_cases hl : v < (wipeE ρ vs).length
      · rw [List.getElem?_set_self hl] at e; cases e
      · rw [List.getElem?_eq_none (by simpa using hl)] at e; cases e
    · rw [List.getElem?_set_ne hi] at e
      rw [List.getElem?_set_ne hi]
      exact ih.at_ i d e
theorem setE_absorb : ∀ (as : Asg) (ρ : Env') (v : Nat) (o : Option D), v ∈ as.map (·.1) → setE as (ρ.set v o) = setE as ρ
  | [], _, _, _, h => by simp at h
  | (i, d) :: r, ρ, v, o, h => by
    unfold setE
    by_cases hi : i = v
    · subst hi
      rw [List.set_set]
    · have hr : v ∈ r.map (·.1) := by
        rcases List.mem_cons.mp h with e | e
        · exact absurd e.symm hi
        · exact e
      rw [List.set_comm _ _ (Ne.symm hi)]
      exact setE_absorb r _ v o hr
theorem setE_wipe (as : Asg) (ρ : Env') : ∀ vs : List Nat, (∀ v ∈ vs, v ∈ as.map (·.1)) → setE as (wipeE ρ vs) = setE as ρ
  | [], _ => rfl
  | v :: vs, h => by
    unfold wipeE
    rw [setE_absorb as _ v none (h v List.mem_cons_self)]
    exact setE_wipe as ρ vs fun u hu => h u (List.mem_cons_of_mem _ hu)
theorem wipe_set (σ : L2.St) (i : Nat) (o : Option V) : ∀ vs : List Nat, i ∈ vs → L2.wipe (σ.set i o) vs = L2.wipe σ vs
  | [], h => by simp at h
  | v :: vs, h => by
    unfold L2.wipe
    by_cases hv : i ∈ vs
    · rw [wipe_set σ i o vs hv]
    · have : i = v := by
        rcases List.mem_cons.mp h with e | e
        · exact e
        · exact absurd e hv
      subst this
      refine List.ext_getElem? fun j => ?_
      by_cases hj : i = j
      · subst hj
        by_cases hl : i < σ.length
        · rw [List.getElem?_set_self (by rw [wipe_length]; simpa using hl), List.getElem?_set_self (by rw [wipe_length]; exact hl)]
        · rw [List.getElem?_eq_none (by simp [wipe_length]; omega), List.getElem?_eq_none (by simp [wipe_length]; omega)]
      · rw [List.getElem?_set_ne hj, List.getElem?_set_ne hj]
        by_cases hjv : j ∈ vs
        · clear hv h
          induction vs with
          | nil => simp at hjv
          | cons u us ih =>
            unfold L2.wipe
            by_cases hu : u = j
            · subst hu
              by_cases hl : u < σ.length
              · rw [List.getElem?_set_self (by rw [wipe_length]; simpa using hl), List.getElem?_set_self (by rw [wipe_length]; exact hl)]
              · rw [List.getElem?_eq_none (by simp [wipe_length]; omega), List.getElem?_eq_none (by simp [wipe_length]; omega)]
            · rw [List.getElem?_set_ne hu, List.getElem?_set_ne hu]
              by_cases hm : j ∈ us
              · exact ih hm
              · rw [wipe_out hm, wipe_out hm, List.getElem?_set_ne hj]
        · rw [wipe_out hjv, wipe_out hjv, List.getElem?_set_ne hj]
theorem wipe_setV (vs : List Nat) : ∀ (ws : List (Nat × V)) (σ : L2.St), (∀ p ∈ ws, p.1 ∈ vs) → L2.wipe (setV ws σ) vs = L2.wipe σ vs
  | [], _, _ => rfl
  | (i, v) :: r, σ, h => by
    unfold setV
    rw [wipe_setV vs r _ fun p hp => h p (List.mem_cons_of_mem _ hp), wipe_set σ i _ vs (h (i, v) List.mem_cons_self)]
theorem wipe_wipe (σ : L2.St) (vs : List Nat) : ∀ us : List Nat, (∀ u ∈ us, u ∈ vs) → L2.wipe (L2.wipe σ us) vs = L2.wipe σ vs
  | [], _ => rfl
  | u :: us, h => by
    show L2.wipe ((L2.wipe σ us).set u none) vs = _
    rw [wipe_set _ u none vs (h u List.mem_cons_self)]
    exact wipe_wipe σ vs us fun x hx => h x (List.mem_cons_of_mem _ hx)
theorem RepA.ix {K : PySem.W.Frag} {F : Hp} {as : Asg} {ws : List (Nat × V)} (r : RepA K fa F as ws) : ws.map (·.1) = as.map (·.1) := by
  induction r with
  | nil => rfl
  | cons _ _ ih => simp [ih]
/-- the state of a comprehension's loop: its list at D holds acc -/
structure CSt (X : Cx) (fa : Option FA) (F1 H1 : Hp) (D' : Addr) (F H : Hp) (acc : List D) (s : FS) : Prop where
  ext : Ext fa F1 H1 F H
  fd : FeedOk X.K fa F H s
  fD : F D' = none
  nD : H1 D' = none
  nf : Nfa fa D'
  at_ : ∃ av, H D' = some (.lst av) ∧ RepL X.K fa F acc av
theorem CSt.step {F1 H1 F H F' H' : Hp} {D' : Addr} {acc : List D} {s s' : FS} (c : CSt X fa F1 H1 D' F H acc s) (e : Ext fa F H F' H') (fo : FeedOk X.K fa F' H' s') : CSt X fa F1 H1 D' F' H' acc s' := by
  obtain ⟨av, h, r⟩ := c.at_
  exact ⟨c.ext.trans e, fo, (e.fr D' (by rw [h]; simp)).trans c.fD, c.nD, c.nf, av, e.hh _ _ h c.nf, r.mono e.ff⟩
/-- one more item -/
theorem CSt.add {F1 H1 F H : Hp} {D' : Addr} {acc : List D} {s : FS} {y : D} {v : V} {av : List V} (c : CSt X fa F1 H1 D' F H acc s) (hD : H D' = some (.lst av)) (r : Rep X.K fa F y v) : CSt X fa F1 H1 D' F (upd H D' (.lst (av ++ [v]))) (acc ++ [y]) s := by
  obtain ⟨av', h, rl⟩ := c.at_
  rw [hD] at h
  cases h
  refine ⟨⟨c.ext.ff, fun b u z => ?_, fun b u z n => ?_, c.ext.fr, fun b z => ?_⟩, fun φ q => ?_, c.fD, c.nD, c.nf, _, upd_same, rl.append (.cons r .nil)⟩
  · rw [upd_ne (ne_of_none z c.fD)]; exact c.ext.fh b u z
  · rw [upd_ne (ne_of_none z c.nD)]; exact c.ext.hh b u z n
  · have : b ≠ D' := fun q => z (q ▸ c.nD)
    rw [upd_ne this]; exact c.ext.al b z
  · obtain ⟨g1, g2, g3, g4⟩ := c.fd φ q
    exact ⟨g1, g2, by rw [upd_ne (c.nf φ q)]; exact g3, g4⟩
theorem quiet_ok {α : Type} {m : M α} {s : FS} {P : Res α → Prop} (hb : ¬ P .bad) (h : P (M.quiet m s)) : ∃ a s', m s = .ok a s' ∧ P (.ok a s') := by
  unfold M.quiet at h
  cases e : m s with
  | bad => rw [e] at h; exact absurd h hb
  | err x s' => rw [e] at h; exact absurd h hb
  | ok a s' => rw [e] at h; exact ⟨a, s', rfl, h⟩
/-- the first clause's store and tests, of item x -/
theorem lc_turn {F1 H1 F H : Hp} {D' : Addr} {acc : List D} {s s1 : FS} {σ : L2.St} {ρ : Env'} {x : D} {v : V} {as : Asg} {k : Bool} {b : D → Option Asg} {c : Env' → M Bool} {vs ns : List Nat} {R : L2.St → Bool → Hp → Prop} (C : CSt X fa F1 H1 D' F H acc s) (en : EnvOk X.K fa F σ ρ)
    (r : Rep X.K fa F x v) (hb : b x = some as) (hc : c (setE as ρ) s = .ok k s1) (hin : ∀ n ∈ ns, n ∈ vs) (hni : ∀ n ∈ vs, n ∈ ns)
    (q : ∀ σ2 F2 H2, CSt X fa F1 H1 D' F2 H2 acc s1 → Same F F2 → EnvOk X.K fa F2 σ2 (setE as ρ) → EnvOk X.K fa F2 σ ρ → L2.wipe σ2 vs = L2.wipe σ vs → R σ2 k H2) :
    gStar X ns b v (L2.wipe σ vs) H fun σ2 H2 => L2.wipe σ2 vs = L2.wipe σ vs ∧ tStarB X fa Wno c σ2 H2 (R σ2) := by
  refine ⟨fa, F, x, as, C.ext.fh, r, hb, fun ws hw hn => ?_⟩
  have hwv : L2.wipe (setV ws (L2.wipe σ vs)) vs = L2.wipe σ vs := by
    rw [wipe_setV vs ws _ fun p hp => hin _ (by rw [← hn, ← hw.ix]; exact List.mem_map_of_mem hp), wipe_wipe σ vs vs fun _ h => h]
  have en2 : EnvOk X.K fa F (setV ws (L2.wipe σ vs)) (setE as ρ) := by
    have z := (en.wipe vs).setE hw
    rw [setE_wipe as ρ vs fun n h => by rw [hn]; exact hni n h] at z
    exact z
  refine ⟨hwv, F, setE as ρ, s, C.ext.fh, C.fd, en2, ?_⟩
  rw [hc]
  exact fun F' H' e fo => q _ F' H' (C.step e fo) e.ff (en2.mono e.ff) (en.mono e.ff) hwv
theorem nok_lc {tg iter elt : Expr} {it : Env' → M (List D)} {b : D → Option Asg} {c : Env' → M Bool} {f : Env' → M D} {wi : TI} {vs ns : List Nat} (ki : IOk X fa Wσ wi it) (hin : ∀ n ∈ ns, n ∈ vs) (hni : ∀ n ∈ vs, n ∈ ns) :
    NOk X fa Wσ (tLc wi (gStar X ns b) (tStarB X fa Wno c) (tStar X fa Wno f) vs) (dLc it b c f) := by
  intro σ F H ρ s Q h1 h2 h3 hg
  refine ki σ F H ρ s _ h1 h2 h3 ?_
  change GoodN X fa (Wσ σ) F H ((it ρ s).bnd _) Q at hg
  generalize it ρ s = r at hg
  cases r with
  | bad => exact hg
  | err e s' => exact hg
  | ok xs s0 =>
    intro J F1 H1 e1 o1 wj D' hD
    change GoodN X fa (Wσ σ) F H ((if xs.length ≤ sizeLine then M.quiet (lcE b c f xs ρ) else M.bad) s0) Q at hg
    by_cases hl : xs.length ≤ sizeLine
    · rw [if_pos hl] at hg
      obtain ⟨ys, s9, hys, hg⟩ := quiet_ok (P := fun r => GoodN X fa (Wσ σ) F H r Q) (fun z => z) hg
      obtain ⟨G, Y, wk, hG, hY⟩ := wj.ex
      have nf : Nfa fa D' := fun φ q z => by
        obtain ⟨g1, g2, g3, g4⟩ := o1 φ q
        rw [z, hD] at g3
        cases g3
      have fD : F1 D' = none := Same.free e1.fh hD
      have C0 : CSt X fa F1 H1 D' F1 (upd H1 D' (.lst [])) [] s0 := by
        refine ⟨⟨Same.refl _, fun b u z => ?_, fun b u z _ => ?_, fun _ _ => rfl, fun b z => ?_⟩, fun φ q => ?_, fD, hD, nf, [], upd_same, .nil⟩
        · rw [upd_ne (ne_of_none z fD)]; exact e1.fh b u z
        · rw [upd_ne (ne_of_none z hD)]; exact z
        · have : b ≠ D' := fun q => z (q ▸ hD)
          rw [upd_ne this]; exact z
        · obtain ⟨g1, g2, g3, g4⟩ := o1 φ q
          exact ⟨g1, g2, by rw [upd_ne (nf φ q)]; exact g3, g4⟩
      refine lc_it wk (fun i H' => ∃ F' acc s' zs, CSt X fa F1 H1 D' F' H' acc s' ∧ lcE b c f (xs.drop i) ρ s' = .ok zs s9 ∧ acc ++ zs = ys ∧ acc.length ≤ i) ⟨F1, [], s0, ys, C0, hys, rfl, Nat.zero_le _⟩ ?_ ?_ ?_
      · rintro i H' _ ⟨F', acc, s', zs, C, _⟩
        exact hG F' H' C.ext.ff C.ext.fh
      · rintro i x H' H3 hi ⟨F', acc, s', zs, C, hz, ha, hlen⟩ y
        have hx : xs[i]? = some xs[i] := List.getElem?_eq_getElem hi
        obtain ⟨F3, a1, a2, a3, a4, r⟩ := hY i _ F' H' x H3 hx C.ext.ff C.ext.fh y
        have C3 := C.step (ext_same a1 a2 a3 a4) (C.fd.ext_same a1 a3 a4)
        rw [List.drop_eq_getElem_cons hi] at hz
        change ((M.lift (b xs[i]) s').bnd _) = _ at hz
        obtain ⟨as, s1, hb0, hz1⟩ := bnd_ok hz
        obtain ⟨hb, es1⟩ := lift_ok hb0
        rw [es1] at hz1
        change ((c (setE as ρ) s').bnd _) = _ at hz1
        obtain ⟨k, s2, hc, hz2⟩ := bnd_ok hz1
        refine lc_turn C3 (h3.mono (e1.ff.trans (C.ext.ff.trans a1))) r hb hc hin hni fun σ2 F4 H4 C4 e34 en2 en hw => ?_
        cases k with
        | false =>
          refine iteF ⟨F4, acc, s2, zs, C4, ?_, ha, by omega⟩
          rw [if_neg Bool.false_ne_true] at hz2
          exact hz2
        | true =>
          rw [if_pos rfl] at hz2
          change ((f (setE as ρ) s2).bnd _) = _ at hz2
          obtain ⟨y', s3, hf, hz3⟩ := bnd_ok hz2
          change ((lcE b c f (xs.drop (i + 1)) ρ s3).bnd _) = _ at hz3
          obtain ⟨zs', s4, hz4, hq⟩ := bnd_ok hz3
          cases hq
          refine iteT ⟨F4, setE as ρ, s2, C4.ext.fh, C4.fd, en2, ?_⟩
          rw [hf]
          intro w F5 H5 e5 o5 r5
          have C5 := C4.step e5 o5
          obtain ⟨av, hD5, rl⟩ := id C5.at_
          refine ⟨av, hD5, by rw [← rl.length]; omega, F5, acc ++ [y'], s3, zs', C5.add hD5 r5, hz4, by rw [List.append_assoc]; exact ha, by simp; omega⟩
      · rintro H' ⟨F', acc, s', zs, C, hz, ha, hlen⟩
        rw [List.drop_length] at hz
        cases hz
        rw [List.append_nil] at ha
        subst ha
        obtain ⟨av, hD', rl⟩ := C.at_
        refine hg D' av F' H' (e1.trans C.ext) C.fd ?_ C.fD hD' rl
        cases z : H D' with
        | none => rfl
        | some u => exact absurd hD (e1.al D' (by rw [z]; simp))
    · rw [if_neg hl] at hg
      exact hg.elim
/-- [elt for tg in iter if ..] -/
theorem nd_lc {tg iter elt : Expr} {ifs : List Expr} {scope : Scope} {own : List (Str × Nat)} {pos : Pos} {it : Env' → M (List D)} {b : D → Option Asg} {c : Env' → M Bool} {f : Env' → M D} {ns : List Nat} (hc : X.calm = true) (hN : X.N.Nodup) (hi : IJ X fa Wσ tg iter it) (ok : BlkOk X.N X.env.scope scope own)
    (hin : ∀ n ∈ ns, n ∈ own.map (·.2)) (hni : ∀ n ∈ own.map (·.2), n ∈ ns)
    (hg : ∀ (s : Shared) (H : Hp) (C : Addr) (cl : List (Str × Addr)) (fp : List Addr), TJ (X.blk s H scope (compEnvC scope cl C X.env) fp) tg ns b) (ht : ∀ (s : Shared) (H : Hp) (C : Addr) (cl : List (Str × Addr)) (fp : List Addr), PTsD (X.blk s H scope (compEnvC scope cl C X.env) fp) fa Wno ifs c)
    (he : ∀ (s : Shared) (H : Hp) (C : Addr) (cl : List (Str × Addr)) (fp : List Addr), ED (X.blk s H scope (compEnvC scope cl C X.env) fp) fa Wno elt f) (hs : ∀ x, foldedSetIterable iter X.env x = pure x := by intro _; rfl) :
    ND X fa Wσ (.ListComp elt [⟨tg, iter, ifs, 0⟩] scope pos) (dLc it b c f) := by
  obtain ⟨wi, pi, ki⟩ := hi
  exact ⟨_, pe_lc hc hN pi ok (fun s H C cl fp => (hg s H C cl fp).star) (tt := tStarB X fa Wno c) (fun s H C cl fp => (ht s H C cl fp).star) (fun s H C cl fp => (he s H C cl fp).star) hs, nok_lc (tg := tg) (iter := iter) (elt := elt) ki hin hni⟩
/-- y = [..] -/
theorem sj_setLc {tg iter elt : Expr} {ifs : List Expr} {scope : Scope} {own : List (Str × Nat)} {pos spos py : Pos} {i : Nat} {y : Str} {it : Env' → M (List D)} {b : D → Option Asg} {c : Env' → M Bool} {f : Env' → M D} {ns : List Nat} (hc : X.calm = true) (hN : X.N.Nodup)
    (hi : IJ X fa (fun _ => W) tg iter it) (ok : BlkOk X.N X.env.scope scope own) (hin : ∀ n ∈ ns, n ∈ own.map (·.2)) (hni : ∀ n ∈ own.map (·.2), n ∈ ns)
    (hg : ∀ (s : Shared) (H : Hp) (C : Addr) (cl : List (Str × Addr)) (fp : List Addr), TJ (X.blk s H scope (compEnvC scope cl C X.env) fp) tg ns b) (ht : ∀ (s : Shared) (H : Hp) (C : Addr) (cl : List (Str × Addr)) (fp : List Addr), PTsD (X.blk s H scope (compEnvC scope cl C X.env) fp) fa Wno ifs c)
    (he : ∀ (s : Shared) (H : Hp) (C : Addr) (cl : List (Str × Addr)) (fp : List Addr), ED (X.blk s H scope (compEnvC scope cl C X.env) fp) fa Wno elt f)
    (hy : X.N[i]? = some y := by rfl) (hyl : X.env.scope.names.lookup y = some .local := by rfl) (hsw : swapsWith (.ListComp elt [⟨tg, iter, ifs, 0⟩] scope pos) (some (.Name y py)) spos.line X.env = pure true := by exact sw_true rfl rfl rfl (by decide +kernel)) (hs : ∀ x, foldedSetIterable iter X.env x = pure x := by intro _; rfl) :
    SJ X fa W (.Assign [.Name y py] (.ListComp elt [⟨tg, iter, ifs, 0⟩] scope pos) spos) (gSet i (vNew (dLc it b c f))) := by
  obtain ⟨wi, pi, ki⟩ := hi
  exact sj_asg (ps_setLc hc hN hy hyl hsw pi ok (fun s H C cl fp => (hg s H C cl fp).star) (tt := tStarB X fa Wno c) (fun s H C cl fp => (ht s H C cl fp).star) (fun s H C cl fp => (he s H C cl fp).star) hs) (vok_new (nok_lc (tg := tg) (iter := iter) (elt := elt) ki hin hni))
end
end DL

set_option Elab.async false
set_option linter.all false
set_option maxRecDepth 100000
set_option maxHeartbeats 2000000
/-! The data layer: owned lists and dicts changed; several targets. -/
namespace DL
open PySem PySem.Spec PyProof.Rows L2

section
variable {K : PySem.W.Frag} {fa : Option FA} {B F0 H0 F H : Hp} {A : Nat → Addr} {s : FS}
theorem SOk.pre {σ us : L2.St} {ρ es : Sts} (S : SOk K fa B F0 H0 F H A (σ ++ us) (ρ ++ es) s) (hl : σ.length = ρ.length) : SOk K fa B F0 H0 F H A σ ρ s := by
  refine ⟨S.ext, S.flr, S.fd, hl, fun i e h => ?_, fun i j e e' h h' => S.inj i j e e' (app_get h) (app_get h')⟩
  have z := S.slot i e (app_get h)
  rw [List.getElem?_append_left (by rw [hl]; exact (List.getElem?_eq_some_iff.mp h).1)] at z
  exact z
theorem RepL.of_get : ∀ {ds : List D} {ws : List V}, ds.length = ws.length → (∀ (k : Nat) d, ds[k]? = some d → ∃ w, ws[k]? = some w ∧ Rep K fa F d w) → RepL K fa F ds ws
  | [], [], _, _ => .nil
  | [], _ :: _, h, _ => by cases h
  | _ :: _, [], h, _ => by cases h
  | d :: ds, w :: ws, h, g => by
    obtain ⟨w', e, r⟩ := g 0 d rfl
    cases e
    exact .cons r (RepL.of_get (by simpa using h) fun k d' hd => g (k + 1) d' hd)
/-- the data on the stack -/
theorem SOk.top {σ : L2.St} {ρ : Sts} {ds : List D} {ws : List V} (S : SOk K fa B F0 H0 F H A (σ ++ ws.map some) (ρ ++ ds.map EV.d) s) (hl : σ.length = ρ.length) : RepL K fa F ds ws := by
  have hlen := S.len
  simp only [List.length_append, List.length_map] at hlen
  refine RepL.of_get (by omega) fun k d hd => ?_
  have hk : k < ds.length := (List.getElem?_eq_some_iff.mp hd).1
  have z := S.slot (ρ.length + k) (.d d) (by rw [List.getElem?_append_right (by omega), Nat.add_sub_cancel_left, List.getElem?_map, hd]; rfl)
  obtain ⟨v, e, r⟩ := z
  rw [List.getElem?_append_right (by omega), hl, Nat.add_sub_cancel_left, List.getElem?_map] at e
  cases q : ws[k]? with
  | none => rw [q] at e; cases e
  | some w =>
    rw [q] at e
    cases e
    exact ⟨_, rfl, r⟩
end

/-! ### lists of values at a statement -/
def GoodLV (X : Cx) (fa : Option FA) (W : XK) (B F0 H0 : Hp) (σ vs : L2.St) (evs : Sts) (r : Res (List D × Sts)) (Q : List V → Hp → Prop) : Prop :=
  match r with
  | .bad => False
  | .ok p s' => ∀ ws F' H' A', SOk X.K fa B F0 H0 F' H' A' (σ ++ vs ++ ws.map some) (p.2 ++ evs ++ p.1.map EV.d) s' → ws.length = p.1.length → Q ws H'
  | .err e s' => ∀ cls dd F' H', Ext fa F0 H0 F' H' → FeedOk X.K fa F' H' s' → RepX X.K X.mg fa F' H' e cls dd → W cls dd H'
def LVOk (X : Cx) (fa : Option FA) (W : XK) (t : TA) (f : Sts → M (List D × Sts)) : Prop :=
  ∀ (B F0 H0 F H : Hp) (A : Nat → Addr) (σ vs : L2.St) (ρ evs : Sts) (s : FS) (Q : List V → Hp → Prop), σ.length = ρ.length → SOk X.K fa B F0 H0 F H A (σ ++ vs) (ρ ++ evs) s → GoodLV X fa W B F0 H0 σ vs evs (f ρ s) Q → t σ H Q
def LVJ (X : Cx) (fa : Option FA) (W : XK) (es : List Expr) (f : Sts → M (List D × Sts)) : Prop := ∃ t, PA X es t ∧ LVOk X fa W t f
def lvNil : Sts → M (List D × Sts) := fun ρ => M.pure ([], ρ)
def lvCons (f : Sts → M (EV × Sts)) (g : Sts → M (List D × Sts)) : Sts → M (List D × Sts) := fun ρ => (f ρ).bind fun p => match p.1 with
  | .d x => (g p.2).bind fun q => M.pure (x :: q.1, q.2)
  | _ => M.bad
section
variable {X : Cx} {fa : Option FA} {W : XK} {a b c e o : Expr} {es rest : List Expr} {pos p apos cpos : Pos} {f fv : Sts → M (EV × Sts)} {fl : Sts → M (List D × Sts)}
theorem GoodLV.tgt {B F0 H0 : Hp} {σ vs : L2.St} {evs : Sts} {Q : List V → Hp → Prop} : TgtV X fa W F0 H0 (fun r => GoodLV X fa W B F0 H0 σ vs evs r Q) := ⟨fun h => h, fun _ _ h => h⟩
theorem lvj_nil : LVJ X fa W [] lvNil := ⟨_, pa_nil, fun B F0 H0 F H A σ vs ρ evs s Q hl S h => h [] F H A (by simpa using S) rfl⟩
theorem LVOk.then {t : TA} {β : Type} {g : List D × Sts → M β} {G : Res β → Prop} {B F0 H0 F H : Hp} {A : Nat → Addr} {σ vs : L2.St} {ρ evs : Sts} {s : FS} {Q : List V → Hp → Prop} (h : LVOk X fa W t fl) (T : TgtV X fa W F0 H0 G) (hl : σ.length = ρ.length)
    (S : SOk X.K fa B F0 H0 F H A (σ ++ vs) (ρ ++ evs) s) (hg : G ((fl ρ s).bnd g))
    (k : ∀ ds ρ' s' ws F' H' A', SOk X.K fa B F0 H0 F' H' A' (σ ++ vs) (ρ' ++ evs) s' → σ.length = ρ'.length → ws.length = ds.length → RepL X.K fa F' ds ws → G (g (ds, ρ') s') → Q ws H') : t σ H Q := by
  refine h B F0 H0 F H A σ vs ρ evs s Q hl S ?_
  generalize fl ρ s = r at hg
  cases r with
  | bad => exact absurd hg T.bad
  | err e s' => exact T.err e s' hg
  | ok q s' =>
    intro w F' H' A' S' hw
    have l1 := S'.len
    have l2 := S.len
    simp only [List.length_append, List.length_map] at l1 l2
    have l3 : (σ ++ vs).length = (q.2 ++ evs).length := by simp only [List.length_append]; omega
    exact k q.1 q.2 s' w F' H' A' (S'.pre l3) (by omega) hw (S'.top l3) hg
theorem lvj_cons (ha : VJ X fa W e f) (hr : LVJ X fa W es fl) (hs : starEach (e :: es) X.env = (false, eval e X.env) :: starEach es X.env := by rfl) : LVJ X fa W (e :: es) (lvCons f fl) := by
  obtain ⟨ta, pa, ka⟩ := ha
  obtain ⟨tr, pr, kr⟩ := hr
  refine ⟨_, pa_cons pa pr hs, fun B F0 H0 F H A σ vs ρ evs s Q hl S h => ?_⟩
  refine ka.then GoodLV.tgt hl S h fun ev ρ' s' w F' H' A' S' hl' h' => ?_
  cases ev with
  | d x =>
    rw [List.append_assoc, List.append_assoc] at S'
    have e2 : ∀ r, GoodLV X fa W B F0 H0 σ vs evs (Res.bnd r fun q => M.pure (x :: q.1, q.2)) Q → GoodLV X fa W B F0 H0 σ (vs ++ [some w]) (evs ++ [.d x]) r (fun ws H => Q (w :: ws) H) := fun r hr => by
      cases r with
      | bad => exact hr
      | err e s => exact hr
      | ok q s =>
        refine fun ws F2 H2 A2 S2 hw => hr (w :: ws) F2 H2 A2 ?_ (by simpa using hw)
        have e3 : σ ++ vs ++ (w :: ws).map some = σ ++ (vs ++ [some w]) ++ ws.map some := by simp
        have e4 : q.2 ++ evs ++ (x :: q.1).map EV.d = q.2 ++ (evs ++ [.d x]) ++ q.1.map EV.d := by simp
        show SOk X.K fa B F0 H0 F2 H2 A2 (σ ++ vs ++ (w :: ws).map some) (q.2 ++ evs ++ (x :: q.1).map EV.d) s
        rw [e3, e4]
        exact S2
    exact kr B F0 H0 F' H' A' σ (vs ++ [some w]) ρ' (evs ++ [.d x]) s' _ hl' S' (e2 _ h')
  | _ => exact h'.elim

/-! ### methods of an owned list -/
/-- the method's reading does mo: the content and the arguments give a result and a new content -/
def MoOk (X : Cx) (r : V → List V → Hp → VK → Prop) (mo : List D → List D → Option (D × List D)) : Prop :=
  ∀ (fa : Option FA) (F H : Hp) (p : Addr) (vs : List V) (xs as : List D) (ws : List V) (Q : VK) (d : D) (xs' : List D), H p = some (.lst vs) → RepL X.K fa F xs vs → RepL X.K fa F as ws → mo xs as = some (d, xs') →
    (∀ v vs', RepL X.K fa F xs' vs' → Rep X.K fa F d v → Q v (upd H p (.lst vs'))) → r (.ref p) ws H Q
def vMt (i : Nat) (mo : List D → List D → Option (D × List D)) (fl : Sts → M (List D × Sts)) : Sts → M (EV × Sts) := fun ρ => match ρ[i]? with
  | some (.ol _) => (fl ρ).bind fun q => match q.2[i]? with
    | some (.ol xs) => (M.lift (mo xs q.1)).bind fun z => M.pure (.d z.1, q.2.set i (.ol z.2))
    | _ => M.bad
  | _ => M.bad
theorem SOk.mutate {K : PySem.W.Frag} {B F0 H0 F H : Hp} {A : Nat → Addr} {σ vs : L2.St} {ρ evs : Sts} {s : FS} {i : Nat} {xs xs' : List D} {vs' : List V} {d : D} {v : V} (S : SOk K fa B F0 H0 F H A (σ ++ vs) (ρ ++ evs) s) (h : ρ[i]? = some (.ol xs)) (r : RepL K fa F xs' vs') (rd : Rep K fa F d v) :
    SOk K fa B F0 H0 F (upd H (A i) (.lst vs')) A (σ ++ vs ++ [some v]) (ρ.set i (.ol xs') ++ evs ++ [.d d]) s := by
  have hi : i < ρ.length := (List.getElem?_eq_some_iff.mp h).1
  obtain ⟨h1, h2, h3, h4, h5⟩ := (S.slot i _ (app_get h)).own_at rfl
  have S1 := S.write (ev' := .ol xs') (o := .lst vs') (app_get h) rfl rfl ⟨rfl, h2, h3, h4, vs', upd_same, r⟩
  rw [List.set_append_left _ _ hi] at S1
  exact S1.push rd
theorem vj_mt {i : Nat} {x m : Str} {id : String} {r : V → List V → Hp → VK → Prop} {mo : List D → List D → Option (D × List D)} (slot : Slot "list" m id) (hty : typeOf (.builtin id) = pure (.type "method_descriptor")) (hm : MtR X id r) (ok : MoOk X r mo) (hl : LVJ X fa W (e :: es) fl)
    (ho : PE X (.Name x p) (tVar i)) (hbase : attributeBase (.Name x p) m X.env (eval (.Name x p) X.env) = eval (.Name x p) X.env := by rfl)
    (hfew : ((backTo cpos (starEach (e :: es) X.env)).all (fun x => !x.1) && (backToKw cpos (keywordEach [] X.env)).all (fun x => x.1.isSome) && decide ((e :: es).length + ([] : List Keyword).length + (if ([] : List Keyword).isEmpty then 0 else 1) < 30)) = true := by rfl)
    (hline : (apos.endLine == cpos.line) = true := by rfl) (hs : starEach (e :: es) X.env = (false, eval e X.env) :: starEach es X.env := by rfl) (hplain : (backTo cpos (starEach es X.env)).any (·.1) = false := by rfl) :
    VJ X fa W (.Call (.Attribute (.Name x p) m apos) (e :: es) [] cpos) (vMt i mo fl) := by
  obtain ⟨tl, pl, kl⟩ := hl
  refine ⟨_, pe_bm PySem.F.plainAttrs_list slot hty hm ho pl hbase hfew hline hs hplain, fun B F0 H0 F H A σ vs ρ evs s Q hl S hg => ?_⟩
  unfold vMt at hg
  cases e1 : ρ[i]? with
  | none => rw [e1] at hg; exact hg.elim
  | some ev =>
    cases ev with
    | ol xs0 =>
      rw [e1] at hg
      obtain ⟨w0, f0, g0, n0, vs0, q0, r0⟩ := S.slot i _ (app_get e1)
      have hi : i < σ.length := by rw [hl]; exact (List.getElem?_eq_some_iff.mp e1).1
      rw [List.getElem?_append_left hi] at w0
      have w1 := join_some w0
      refine ⟨_, w1, .inl ⟨rfl, _, SqL.of q0⟩, ?_⟩
      refine kl.then GoodV.tgt hl S hg fun ds ρ' s' ws F' H' A' S' hl' hw rl h' => ?_
      change GoodV X fa W B F0 H0 σ vs evs ((match ρ'[i]? with
        | some (.ol xs) => (M.lift (mo xs ds)).bind fun z => M.pure (.d z.1, ρ'.set i (.ol z.2))
        | _ => M.bad : M (EV × Sts)) s') Q at h'
      cases e2 : ρ'[i]? with
      | none => rw [e2] at h'; exact h'.elim
      | some ev2 =>
        cases ev2 with
        | ol xs =>
          rw [e2] at h'
          obtain ⟨w2, f2, g2, n2, vs2, q2, r2⟩ := S'.slot i _ (app_get e2)
          rw [List.getElem?_append_left hi] at w2
          have w3 := join_some w2
          rw [w1] at w3
          have ea : A i = A' i := by
            injection w3 with w3
            injection w3 with w3
            injection w3
          change GoodV X fa W B F0 H0 σ vs evs (((M.lift (mo xs ds)).bind _) s') Q at h'
          cases e3 : mo xs ds with
          | none => rw [e3] at h'; exact h'.elim
          | some z =>
            rw [e3] at h'
            obtain ⟨d, xs'⟩ := z
            rw [ea]
            exact ok fa F' H' (A' i) vs2 xs ds ws _ d xs' q2 r2 rl e3 fun v vs' rx rd => h' v F' _ A' (S'.mutate e2 rx rd)
        | _ => rw [e2] at h'; exact h'.elim
    | _ => rw [e1] at hg; exact hg.elim
theorem vj_mt0 {i : Nat} {x m : Str} {id : String} {r : V → List V → Hp → VK → Prop} {mo : List D → List D → Option (D × List D)} (slot : Slot "list" m id) (hty : typeOf (.builtin id) = pure (.type "method_descriptor")) (hm : MtR X id r) (ok : MoOk X r mo)
    (ho : PE X (.Name x p) (tVar i)) (hbase : attributeBase (.Name x p) m X.env (eval (.Name x p) X.env) = eval (.Name x p) X.env := by rfl) (hline : (apos.endLine == cpos.line) = true := by rfl) :
    VJ X fa W (.Call (.Attribute (.Name x p) m apos) [] [] cpos) (vMt i mo lvNil) := by
  refine ⟨_, pe_bm0 PySem.F.plainAttrs_list slot hty hm ho hbase hline, fun B F0 H0 F H A σ vs ρ evs s Q hl S hg => ?_⟩
  unfold vMt at hg
  cases e1 : ρ[i]? with
  | none => rw [e1] at hg; exact hg.elim
  | some ev =>
    cases ev with
    | ol xs =>
      rw [e1] at hg
      change GoodV X fa W B F0 H0 σ vs evs ((match ρ[i]? with
        | some (.ol xs) => (M.lift (mo xs [])).bind fun z => M.pure (.d z.1, ρ.set i (.ol z.2))
        | _ => M.bad : M (EV × Sts)) s) Q at hg
      rw [e1] at hg
      obtain ⟨w0, f0, g0, n0, vs0, q0, r0⟩ := S.slot i _ (app_get e1)
      have hi : i < σ.length := by rw [hl]; exact (List.getElem?_eq_some_iff.mp e1).1
      rw [List.getElem?_append_left hi] at w0
      refine ⟨_, join_some w0, .inl ⟨rfl, _, SqL.of q0⟩, ?_⟩
      change GoodV X fa W B F0 H0 σ vs evs (((M.lift (mo xs [])).bind _) s) Q at hg
      cases e3 : mo xs [] with
      | none => rw [e3] at hg; exact hg.elim
      | some z =>
        rw [e3] at hg
        obtain ⟨d, xs'⟩ := z
        exact ok fa F H (A i) vs0 xs [] [] _ d xs' q0 r0 .nil e3 fun v vs' rx rd => hg v F _ A (S.mutate e1 rx rd)
    | _ => rw [e1] at hg; exact hg.elim
def moAppend : List D → List D → Option (D × List D)
  | xs, [y] => if xs.length < sizeLine then some (.non, xs ++ [y]) else none
  | _, _ => none
theorem ok_append : MoOk X rAppend moAppend := by
  intro fa F H p vs xs as ws Q d xs' h r ra e k
  cases ra with
  | nil => cases e
  | cons ry rr =>
    cases rr with
    | cons _ _ => cases e
    | nil =>
      rename_i y w
      by_cases hz : xs.length < sizeLine
      · rw [show moAppend xs [y] = some (.non, xs ++ [y]) from if_pos hz] at e
        cases e
        exact ⟨p, vs, w, rfl, rfl, h, by rw [← r.length]; exact hz, k _ _ (r.append (.cons ry .nil)) .non⟩
      · rw [show moAppend xs [y] = none from if_neg hz] at e
        cases e
def moInsert : List D → List D → Option (D × List D)
  | xs, [.int i, y] => if xs.length < sizeLine ∧ 0 ≤ i ∧ i < 2 ^ 63 then some (.non, xs.take i.toNat ++ [y] ++ xs.drop i.toNat) else none
  | _, _ => none
theorem ok_insert : MoOk X (fun x vs H Q => ∃ (l : Addr) (xs : List V) (i : Int) (y : V), x = .ref l ∧ vs = [.int i, y] ∧ H l = some (.lst xs) ∧ xs.length < sizeLine ∧ 0 ≤ i ∧ i < 2 ^ 63 ∧ Q .non (upd H l (.lst (xs.take i.toNat ++ [y] ++ xs.drop i.toNat)))) moInsert := by
  intro fa F H p vs xs as ws Q d xs' h r ra e k
  cases ra with
  | nil => cases e
  | cons ri rr =>
    cases rr with
    | nil => cases ri <;> cases e
    | cons ry r3 =>
      cases r3 with
      | cons _ _ => cases ri <;> cases e
      | nil =>
        rename_i y w
        cases ri with
        | int i =>
          by_cases hz : xs.length < sizeLine ∧ 0 ≤ i ∧ i < 2 ^ 63
          · rw [show moInsert xs [.int i, y] = some (.non, xs.take i.toNat ++ [y] ++ xs.drop i.toNat) from if_pos hz] at e
            cases e
            exact ⟨p, vs, i, w, rfl, rfl, h, by rw [← r.length]; exact hz.1, hz.2.1, hz.2.2, k _ _ (((r.take _).append (.cons ry .nil)).append (r.drop _)) .non⟩
          · rw [show moInsert xs [.int i, y] = none from if_neg hz] at e
            cases e
        | _ => cases e
/-- pop(i), 0 ≤ i below the length -/
def moPopAt : List D → List D → Option (D × List D)
  | xs, [.int i] => if 0 ≤ i ∧ i < 2 ^ 63 then (xs[i.toNat]?).map fun y => (y, xs.eraseIdx i.toNat) else none
  | _, _ => none
theorem RepL.eraseIdx {K : PySem.W.Frag} {F : Hp} : ∀ {ds : List D} {vs : List V} (i : Nat), RepL K fa F ds vs → RepL K fa F (ds.eraseIdx i) (vs.eraseIdx i)
  | _, _, _, .nil => .nil
  | _, _, 0, .cons _ t => t
  | _, _, i + 1, .cons r t => .cons r (RepL.eraseIdx i t)
theorem seqIndex_nat {n : Nat} {i : Int} (h0 : 0 ≤ i) (h : i.toNat < n) : seqIndex? i n = some i.toNat := by
  have z : ixN n i = some i.toNat := by
    unfold ixN
    rw [if_pos h0, if_pos (by omega)]
  exact (ixN_seq z).1
theorem ok_popAt : MoOk X rPopAt moPopAt := by
  intro fa F H p vs xs as ws Q d xs' h r ra e k
  cases ra with
  | nil => cases e
  | cons ri rr =>
    cases rr with
    | cons _ _ => cases ri <;> cases e
    | nil =>
      cases ri with
      | int i =>
        by_cases hz : 0 ≤ i ∧ i < 2 ^ 63
        · rw [show moPopAt xs [.int i] = (xs[i.toNat]?).map fun y => (y, xs.eraseIdx i.toNat) from if_pos hz] at e
          cases q : xs[i.toNat]? with
          | none => rw [q] at e; cases e
          | some y =>
            rw [q] at e
            cases e
            obtain ⟨w, hw, rw'⟩ := r.get' q
            have hlt : i.toNat < vs.length := (List.getElem?_eq_some_iff.mp hw).1
            exact ⟨p, vs, i, i.toNat, w, rfl, rfl, h, by omega, hz.2, seqIndex_nat hz.1 hlt, hw, k _ _ (r.eraseIdx _) rw'⟩
        · rw [show moPopAt xs [.int i] = none from if_neg hz] at e
          cases e
      | _ => cases e
end
end DL

set_option Elab.async false
set_option linter.all false
set_option maxRecDepth 100000
set_option maxHeartbeats 2000000
/-! The data layer: stores, several targets. -/
namespace DL
open PySem PySem.Spec PyProof.Rows L2

def gAsgT (b : D → Option Asg) (f : Sts → M (EV × Sts)) : Sts → M (Fl × Sts) := fun ρ => (f ρ).bind fun p => match p.1 with
  | .d x => (M.lift (b x)).bind fun as => M.pure (.nx, setS as p.2)
  | _ => M.bad
def gPar (i j : Nat) (f g : Sts → M (EV × Sts)) : Sts → M (Fl × Sts) := fun ρ => if i < ρ.length ∧ j < ρ.length then (f ρ).bind fun p => (g p.2).bind fun q => M.pure (.nx, (q.2.set i p.1).set j q.1) else M.bad
def gPar3 (i j l : Nat) (f g h : Sts → M (EV × Sts)) : Sts → M (Fl × Sts) := fun ρ => if i < ρ.length ∧ j < ρ.length ∧ l < ρ.length then (f ρ).bind fun p => (g p.2).bind fun q => (h q.2).bind fun r => M.pure (.nx, ((r.2.set i p.1).set j q.1).set l r.1) else M.bad
def keyD : D → Option Key
  | .int i => some (.inl i)
  | .str x => some (.inr x)
  | _ => none
def putD (xs : List (Key × D)) (k : Key) (v : D) : List (Key × D) :=
  if (xs.any fun kv => decide (kv.1 = k)) = true then xs.map (fun kv => if kv.1 = k then (kv.1, v) else kv) else xs ++ [(k, v)]
/-- x[k] = v of an owned list at slot i -/
def gStL (i : Nat) (fv fk : Sts → M (EV × Sts)) : Sts → M (Fl × Sts) := fun ρ => (fv ρ).bind fun p => match p.2[i]? with
  | some (.ol _) => (fk p.2).bind fun q => match p.1, q.1, q.2[i]? with
    | .d y, .d (.int k), some (.ol xs) => (M.lift (ixN xs.length k)).bind fun j => M.pure (.nx, q.2.set i (.ol (xs.set j y)))
    | _, _, _ => M.bad
  | _ => M.bad
/-- x[k] = v of an owned dict at slot i -/
def gStD (i : Nat) (fv fk : Sts → M (EV × Sts)) : Sts → M (Fl × Sts) := fun ρ => (fv ρ).bind fun p => match p.2[i]? with
  | some (.od _) => (fk p.2).bind fun q => match p.1, q.1, q.2[i]? with
    | .d y, .d kk, some (.od xs) => (M.lift (keyD kk)).bind fun k => if xs.length < sizeLine then M.pure (.nx, q.2.set i (.od (putD xs k y))) else M.bad
    | _, _, _ => M.bad
  | _ => M.bad
section
variable {X : Cx} {fa : Option FA} {W : XK} {a b c e o tg : Expr} {es rest : List Expr} {pos p apos cpos px py pz pt : Pos} {f g h fv fk : Sts → M (EV × Sts)} {ns : List Nat} {bb : D → Option Asg} {B F0 H0 F H : Hp} {s : FS}
/-- targets = a value -/
theorem sj_asgT (hv : VJ X fa W e f) (hg : TJ X tg ns bb) (hs : swapsWithSole [tg] e pos.line X.env = pure false := by rfl) (hw : swappedStores [tg] e X.env = pure none := by rfl) (h1 : (assignEach [tg] X.env).map (·.2) = [assign tg X.env] := by rfl) : SJ X fa W (.Assign [tg] e pos) (gAsgT bb f) := by
  obtain ⟨t, p, k⟩ := hv
  obtain ⟨gt, pg, kg⟩ := hg
  refine ⟨_, ps_asg p pg hs hw h1, fun B F0 H0 F H A σ ρ s Dn S hgood => ?_⟩
  refine k.then (vs := []) (evs := []) GoodS.tgt S.len (by rw [app0, app0]; exact S) hgood fun ev ρ' s' w F' H' A' S' hl h' => ?_
  rw [app0, app0] at S'
  cases ev with
  | d x =>
    change GoodS X fa W B F0 H0 (((M.lift (bb x)).bind _) s') Dn at h'
    cases q : bb x with
    | none => rw [q] at h'; exact h'.elim
    | some as =>
      rw [q] at h'
      have S2 := S'.drop hl
      have S1 : SOk X.K fa B F0 H0 F' H' A' (σ ++ [w].map some) (ρ' ++ [x].map EV.d) s' := S'
      have rl := S1.top hl
      cases rl with
      | cons r _ =>
        refine kg fa F' H' x w σ _ as S2.ext.fh r q fun ws hws _ => ?_
        obtain ⟨A2, S3⟩ := S2.setS hws
        exact h' _ F' H' A2 S3
  | _ => exact h'.elim
theorem two_pop {A : Nat → Addr} {σ : L2.St} {ρ : Sts} {u v : V} {eu ev : EV} {K : PySem.W.Frag} (S : SOk K fa B F0 H0 F H A (σ ++ [some u] ++ [some v]) (ρ ++ [eu] ++ [ev]) s) (hl : σ.length = ρ.length) {i j : Nat} (hij : i ≠ j) (hi : i < ρ.length) (hj : j < ρ.length) :
    ∃ A', SOk K fa B F0 H0 F H A' ((σ.set i (some u)).set j (some v)) ((ρ.set i eu).set j ev) s := by
  have S1 := S.pop (by simp [hl]) j
  rw [List.set_append_left _ _ (by omega), List.set_append_left _ _ (by omega)] at S1
  have S2 := S1.pop (by simp [hl]) i
  rw [List.set_comm _ _ (Ne.symm hij), List.set_comm _ _ (Ne.symm hij)] at S2
  exact ⟨_, S2⟩
theorem sj_par {i j : Nat} {x y : Str} {kt : Nat} {k2 : Nat} {pt2 : Pos} (hc : X.calm = true) (hN : X.N.Nodup) (ha : VJ X fa W a f) (hb : VJ X fa W b g) (hi : X.N[i]? = some x := by rfl) (hj : X.N[j]? = some y := by rfl) (hij : i ≠ j := by decide)
    (hx : X.env.scope.names.lookup x = some .local := by rfl) (hy : X.env.scope.names.lookup y = some .local := by rfl)
    (hw : swappedStores [.Tuple [.Name x px, .Name y py] kt pt] (.Tuple [a, b] k2 pt2) X.env = pure (some [x, y]) := by rfl)
    (hs : swapsWithSole [.Tuple [.Name x px, .Name y py] kt pt] (.Tuple [a, b] k2 pt2) pos.line X.env = pure false := by rfl) (e1 : starEach [a, b] X.env = (false, eval a X.env) :: starEach [b] X.env := by rfl) (e2 : starEach [b] X.env = (false, eval b X.env) :: starEach [] X.env := by rfl) :
    SJ X fa W (.Assign [.Tuple [.Name x px, .Name y py] kt pt] (.Tuple [a, b] k2 pt2) pos) (gPar i j f g) := by
  obtain ⟨ta, pa, ka⟩ := ha
  obtain ⟨tb, pb, kb⟩ := hb
  refine ⟨_, ps_par hc hN hi hj hij hx hy (pa_cons pa (pa_cons pb pa_nil e2) e1) hw hs, fun B F0 H0 F H A σ ρ s Dn S hgood => ?_⟩
  by_cases hlt : i < ρ.length ∧ j < ρ.length
  · unfold gPar at hgood; rw [if_pos hlt] at hgood
    refine ka.then (vs := []) (evs := []) GoodS.tgt S.len (by rw [app0, app0]; exact S) hgood fun eu ρ1 s1 u F1 H1 A1 S1 hl1 h1 => ?_
    rw [app0, app0] at S1
    refine kb.then (vs := [some u]) (evs := [eu]) GoodS.tgt hl1 S1 h1 fun ev ρ2 s2 v F2 H2 A2 S2 hl2 h2 => ?_
    refine ⟨u, v, rfl, ?_⟩
    obtain ⟨A3, S3⟩ := two_pop S2 hl2 hij (by rw [← hl2, S.len]; exact hlt.1) (by rw [← hl2, S.len]; exact hlt.2)
    exact h2 _ F2 H2 A3 S3
  · unfold gPar at hgood; rw [if_neg hlt] at hgood
    exact hgood.elim
theorem sj_par3 {i j l : Nat} {x y z : Str} {kt : Nat} {k2 : Nat} {pt2 : Pos} (hc : X.calm = true) (hN : X.N.Nodup) (ha : VJ X fa W a f) (hb : VJ X fa W b g) (hd : VJ X fa W c h) (hi : X.N[i]? = some x := by rfl) (hj : X.N[j]? = some y := by rfl) (hk : X.N[l]? = some z := by rfl) (hij : i ≠ j := by decide) (hil : i ≠ l := by decide) (hjl : j ≠ l := by decide)
    (hx : X.env.scope.names.lookup x = some .local := by rfl) (hy : X.env.scope.names.lookup y = some .local := by rfl) (hz : X.env.scope.names.lookup z = some .local := by rfl)
    (hw : swappedStores [.Tuple [.Name x px, .Name y py, .Name z pz] kt pt] (.Tuple [a, b, c] k2 pt2) X.env = pure (some [x, y, z]) := by rfl)
    (hs : swapsWithSole [.Tuple [.Name x px, .Name y py, .Name z pz] kt pt] (.Tuple [a, b, c] k2 pt2) pos.line X.env = pure false := by rfl) (e1 : starEach [a, b, c] X.env = (false, eval a X.env) :: starEach [b, c] X.env := by rfl) (e2 : starEach [b, c] X.env = (false, eval b X.env) :: starEach [c] X.env := by rfl) (e3 : starEach [c] X.env = (false, eval c X.env) :: starEach [] X.env := by rfl) :
    SJ X fa W (.Assign [.Tuple [.Name x px, .Name y py, .Name z pz] kt pt] (.Tuple [a, b, c] k2 pt2) pos) (gPar3 i j l f g h) := by
  obtain ⟨ta, pa, ka⟩ := ha
  obtain ⟨tb, pb, kb⟩ := hb
  obtain ⟨td, pd, kd⟩ := hd
  refine ⟨_, ps_par3 hc hN hi hj hk hij hil hjl hx hy hz (pa_cons pa (pa_cons pb (pa_cons pd pa_nil e3) e2) e1) hw hs, fun B F0 H0 F H A σ ρ s Dn S hgood => ?_⟩
  by_cases hlt : i < ρ.length ∧ j < ρ.length ∧ l < ρ.length
  · unfold gPar3 at hgood; rw [if_pos hlt] at hgood
    refine ka.then (vs := []) (evs := []) GoodS.tgt S.len (by rw [app0, app0]; exact S) hgood fun eu ρ1 s1 u F1 H1 A1 S1 hl1 h1 => ?_
    rw [app0, app0] at S1
    refine kb.then (vs := [some u]) (evs := [eu]) GoodS.tgt hl1 S1 h1 fun ev ρ2 s2 v F2 H2 A2 S2 hl2 h2 => ?_
    rw [List.append_assoc, List.append_assoc] at S2
    refine kd.then (vs := [some u] ++ [some v]) (evs := [eu] ++ [ev]) GoodS.tgt hl2 S2 h2 fun ew ρ3 s3 w F3 H3 A3 S3 hl3 h3 => ?_
    refine ⟨u, v, w, rfl, ?_⟩
    have n3 : ρ3.length = ρ.length := by rw [← hl3, S.len]
    have S4 := S3.pop (by simp [hl3]) l
    rw [List.set_append_left _ _ (by rw [hl3]; omega), List.set_append_left _ _ (by omega)] at S4
    simp only [← List.append_assoc] at S4
    obtain ⟨A5, S5⟩ := two_pop S4 (by simp [hl3]) hij (by simp; omega) (by simp; omega)
    have c1 : ∀ {α : Type} (L : List α) (q1 q2 q3 : α), ((L.set l q3).set i q1).set j q2 = ((L.set i q1).set j q2).set l q3 := fun L q1 q2 q3 => by
      rw [List.set_comm _ _ (Ne.symm hil), List.set_comm _ _ (Ne.symm hjl)]
    rw [c1, c1] at S5
    exact h3 _ F3 H3 A5 S5
  · unfold gPar3 at hgood; rw [if_neg hlt] at hgood
    exact hgood.elim

/-! ### stores -/
theorem RepK.any {K : PySem.W.Frag} (k : Key) : ∀ {xs : List (Key × D)} {vs : List (Key × V)}, RepK K fa F xs vs → (xs.any fun kv => decide (kv.1 = k)) = vs.any fun kv => decide (kv.1 = k)
  | _, _, .nil => rfl
  | _, _, .cons r t => by rw [List.any_cons, List.any_cons, RepK.any k t]
theorem RepK.put {K : PySem.W.Frag} {y : D} {v : V} (k : Key) (r : Rep K fa F y v) : ∀ {xs : List (Key × D)} {vs : List (Key × V)}, RepK K fa F xs vs → RepK K fa F (xs.map fun kv => if kv.1 = k then (kv.1, y) else kv) (vs.map fun kv => if kv.1 = k then (kv.1, v) else kv)
  | _, _, .nil => .nil
  | (k', d) :: _, _ :: _, .cons rd t => by
    rw [List.map_cons, List.map_cons]
    by_cases e : k' = k
    · rw [if_pos e, if_pos e]
      exact .cons r (RepK.put k r t)
    · rw [if_neg e, if_neg e]
      exact .cons rd (RepK.put k r t)
theorem RepK.app1 {K : PySem.W.Frag} {y : D} {v : V} {k : Key} (r : Rep K fa F y v) : ∀ {xs : List (Key × D)} {vs : List (Key × V)}, RepK K fa F xs vs → RepK K fa F (xs ++ [(k, y)]) (vs ++ [(k, v)])
  | _, _, .nil => .cons r .nil
  | _, _, .cons rd t => .cons rd (RepK.app1 r t)
theorem putK_eq {K : PySem.W.Frag} {y : D} {v : V} (k : Key) (r : Rep K fa F y v) {xs : List (Key × D)} {vs : List (Key × V)} (h : RepK K fa F xs vs) : RepK K fa F (putD xs k y) (putK vs k v) := by
  unfold putD putK
  rw [h.any k]
  split
  · exact h.put k r
  · exact h.app1 r
theorem RepK.length {K : PySem.W.Frag} : ∀ {ds : List (Key × D)} {vs : List (Key × V)}, RepK K fa F ds vs → ds.length = vs.length
  | _, _, .nil => rfl
  | _, _, .cons _ t => congrArg (· + 1) (RepK.length t)
theorem RepL.setI {K : PySem.W.Frag} {y : D} {v : V} : ∀ (j : Nat) {ds : List D} {vs : List V}, Rep K fa F y v → RepL K fa F ds vs → RepL K fa F (ds.set j y) (vs.set j v)
  | _, _, _, _, .nil => .nil
  | 0, _, _, r, .cons _ t => .cons r t
  | j + 1, _, _, r, .cons q t => .cons q (RepL.setI j r t)
theorem key_rep {K : PySem.W.Frag} {d : D} {v : V} {k : Key} (h : keyD d = some k) (r : Rep K fa F d v) : v = kV k := by
  cases r <;> first | (cases h; rfl) | cases h
/-- the value is on the stack, the key behind it -/
theorem sj_stL {i : Nat} {x : Str} {pos' : Pos} (hv : VJ X fa W e fv) (hk : VJ X fa W c fk) (ho : PE X (.Name x p) (tVar i)) (hs : swapsWithSole [.Subscript (.Name x p) c pos'] e pos.line X.env = pure false := by rfl) (hw : swappedStores [.Subscript (.Name x p) c pos'] e X.env = pure none := by rfl)
    (h1 : (assignEach [.Subscript (.Name x p) c pos'] X.env).map (·.2) = [assign (.Subscript (.Name x p) c pos') X.env] := by rfl)
    (ha : ∀ v, assign (.Subscript (.Name x p) c pos') X.env v = (do
      let ov ← holding [v] (eval (.Name x p) X.env)
      let iv ← holding [v, ov] (eval c X.env)
      standAt pos'
      holding [v, ov, iv] (setItem ov iv v)
      release [v, ov, iv] []) := by intro _; rfl) :
    SJ X fa W (.Assign [.Subscript (.Name x p) c pos'] e pos) (gStL i fv fk) := by
  obtain ⟨tv, pv', kv⟩ := hv
  obtain ⟨tk, pk, kk⟩ := hk
  refine ⟨_, ps_asg pv' (pg_sub ho pk set_list ha) hs hw h1, fun B F0 H0 F H A σ ρ s Dn S hgood => ?_⟩
  refine kv.then (vs := []) (evs := []) GoodS.tgt S.len (by rw [app0, app0]; exact S) hgood fun ev ρ1 s1 w F1 H1 A1 S1 hl1 h1 => ?_
  rw [app0, app0] at S1
  dsimp only at h1
  cases e1 : ρ1[i]? with
  | none => rw [e1] at h1; exact h1.elim
  | some ev1 =>
    cases ev1 with
    | ol xs0 =>
      rw [e1] at h1
      obtain ⟨w0, f0, g0, n0, vs0, q0, r0⟩ := S1.slot i _ (app_get e1)
      have hi : i < σ.length := by rw [hl1]; exact (List.getElem?_eq_some_iff.mp e1).1
      rw [List.getElem?_append_left hi] at w0
      have w1 := join_some w0
      refine ⟨_, w1, ?_⟩
      refine kk.then (vs := [some w]) (evs := [ev]) GoodS.tgt hl1 S1 h1 fun ek ρ2 s2 u F2 H2 A2 S2 hl2 h2 => ?_
      cases ev with
      | d y =>
        cases ek with
        | d kd =>
          cases kd with
          | int k =>
            dsimp only at h2
            cases e2 : ρ2[i]? with
            | none => rw [e2] at h2; exact h2.elim
            | some ev2 =>
              cases ev2 with
              | ol xs =>
                rw [e2] at h2
                have S2' : SOk X.K fa B F0 H0 F2 H2 A2 (σ ++ [w, u].map some) (ρ2 ++ [y, .int k].map EV.d) s2 := by simpa using S2
                have rl := S2'.top hl2
                have S3 := S2'.pre hl2
                obtain ⟨w2, f2, g2, n2, vs2, q2, r2⟩ := S3.slot i _ e2
                have w3 := join_some w2
                rw [w1] at w3
                have ea : A1 i = A2 i := by
                  injection w3 with w3
                  injection w3 with w3
                  injection w3
                change GoodS X fa W B F0 H0 (((M.lift (ixN xs.length k)).bind _) s2) Dn at h2
                cases e3 : ixN xs.length k with
                | none => rw [e3] at h2; exact h2.elim
                | some j =>
                  rw [e3] at h2
                  cases rl with
                  | cons ry rl =>
                    cases rl with
                    | cons rk _ =>
                      cases rk
                      refine ⟨_, vs2, k, j, rfl, rfl, by rw [ea]; exact q2, by rw [← r2.length]; exact e3, ?_⟩
                      rw [ea]
                      exact h2 σ F2 _ A2 (S3.write (ev' := .ol (xs.set j y)) e2 rfl rfl ⟨rfl, f2, g2, n2, _, upd_same, RepL.setI j ry r2⟩)
              | _ => rw [e2] at h2; exact h2.elim
          | _ => exact h2.elim
        | _ => exact h2.elim
      | _ => exact h2.elim
    | _ => rw [e1] at h1; exact h1.elim
theorem sj_stD {i : Nat} {x : Str} {pos' : Pos} (hu : X.A.units + 1 < cLine) (hv : VJ X fa W e fv) (hk : VJ X fa W c fk) (ho : PE X (.Name x p) (tVar i)) (hs : swapsWith e (some (.Subscript (.Name x p) c pos')) pos.line X.env = pure false := by rfl) :
    SJ X fa W (.Assign [.Subscript (.Name x p) c pos'] e pos) (gStD i fv fk) := by
  obtain ⟨tv, pv', kv⟩ := hv
  obtain ⟨tk, pk, kk⟩ := hk
  refine ⟨_, ps_dput hu ho pk pv' hs, fun B F0 H0 F H A σ ρ s Dn S hgood => ?_⟩
  refine kv.then (vs := []) (evs := []) GoodS.tgt S.len (by rw [app0, app0]; exact S) hgood fun ev ρ1 s1 w F1 H1 A1 S1 hl1 h1 => ?_
  rw [app0, app0] at S1
  dsimp only at h1
  cases e1 : ρ1[i]? with
  | none => rw [e1] at h1; exact h1.elim
  | some ev1 =>
    cases ev1 with
    | od xs0 =>
      rw [e1] at h1
      obtain ⟨w0, f0, g0, n0, vs0, q0, r0⟩ := S1.slot i _ (app_get e1)
      have hi : i < σ.length := by rw [hl1]; exact (List.getElem?_eq_some_iff.mp e1).1
      rw [List.getElem?_append_left hi] at w0
      have w1 := join_some w0
      refine ⟨_, w1, ?_⟩
      refine kk.then (vs := [some w]) (evs := [ev]) GoodS.tgt hl1 S1 h1 fun ek ρ2 s2 u F2 H2 A2 S2 hl2 h2 => ?_
      cases ev with
      | d y =>
        cases ek with
        | d kd =>
          dsimp only at h2
          cases e2 : ρ2[i]? with
          | none => rw [e2] at h2; exact h2.elim
          | some ev2 =>
            cases ev2 with
            | od xs =>
              rw [e2] at h2
              have S2' : SOk X.K fa B F0 H0 F2 H2 A2 (σ ++ [w, u].map some) (ρ2 ++ [y, kd].map EV.d) s2 := by simpa using S2
              have rl := S2'.top hl2
              have S3 := S2'.pre hl2
              obtain ⟨w2, f2, g2, n2, vs2, q2, r2⟩ := S3.slot i _ e2
              have w3 := join_some w2
              rw [w1] at w3
              have ea : A1 i = A2 i := by
                injection w3 with w3
                injection w3 with w3
                injection w3
              change GoodS X fa W B F0 H0 (((M.lift (keyD kd)).bind _) s2) Dn at h2
              cases e3 : keyD kd with
              | none => rw [e3] at h2; exact h2.elim
              | some k =>
                rw [e3] at h2
                change GoodS X fa W B F0 H0 ((if xs.length < sizeLine then M.pure (.nx, ρ2.set i (.od (putD xs k y))) else M.bad) s2) Dn at h2
                by_cases hz : xs.length < sizeLine
                · rw [if_pos hz] at h2
                  cases rl with
                  | cons ry rl =>
                    cases rl with
                    | cons rk _ =>
                      rw [key_rep e3 rk]
                      rw [ea]
                      refine ⟨_, _, rfl, DPut.k (k := k) q2 (by rw [← r2.length]; exact hz), ?_⟩
                      exact h2 σ F2 _ A2 (S3.write (ev' := .od (putD xs k y)) e2 rfl rfl ⟨rfl, f2, g2, n2, _, upd_same, putK_eq k ry r2⟩)
                · rw [if_neg hz] at h2
                  exact h2.elim
            | _ => rw [e2] at h2; exact h2.elim
        | _ => exact h2.elim
      | _ => exact h2.elim
    | _ => rw [e1] at h1; exact h1.elim
end
end DL

set_option Elab.async false
set_option linter.all false
set_option maxRecDepth 100000
set_option maxHeartbeats 2000000
/-! The data layer: operators, built-ins. -/
namespace DL
open PySem PySem.Spec PyProof.Rows L2

theorem OpR.or {X : Cx} {f : Value → Value → Sem Value} {r r' : R2} (h : OpR X f r) (h' : OpR X f r') : OpR X f (fun x y H Q => r x y H Q ∨ r' x y H Q) :=
  fun pins s σ H x y v u Q I rx ry q => q.elim (h pins s σ H x y v u Q I rx ry) (h' pins s σ H x y v u Q I rx ry)

/-! ### arithmetic -/
def addD : D → D → Option D
  | .int a, .int b => some (.int (a + b))
  | .str a, .str b => if a.length + b.length ≤ sizeLine then some (.str (a ++ b)) else none
  | .lst a, .lst b => if a.length + b.length ≤ sizeLine then some (.lst (a ++ b)) else none
  | .tup a, .tup b => if a.length + b.length ≤ sizeLine then some (.tup (a ++ b)) else none
  | _, _ => none
def subD : D → D → Option D
  | .int a, .int b => some (.int (a - b))
  | _, _ => none
def mulD : D → D → Option D
  | .int a, .int b => if (-(2 ^ 64) < a ∧ a < 2 ^ 64) ∨ (-(2 ^ 64) < b ∧ b < 2 ^ 64) then some (.int (a * b)) else none
  | .lst xs, .int k => if -(2 ^ 63) ≤ k ∧ k < 2 ^ 63 ∧ xs.length * k.toNat ≤ sizeLine then some (.lst (List.replicate k.toNat xs).flatten) else none
  | _, _ => none
def modD : D → D → Option D
  | .int a, .int b => if 0 < b then some (.int (a % b)) else none
  | _, _ => none
def fdivD : D → D → Option D
  | .int a, .int b => if 0 < b ∧ b < 1073741824 then some (.int (a / b)) else none
  | _, _ => none
def powD : D → D → Option D
  | .int a, .int b => if 0 ≤ b ∧ b ≤ 1000000 ∧ a.natAbs < 2 ^ 64 then some (.int (a ^ b.toNat)) else none
  | _, _ => none
def negD : D → Option D
  | .int a => some (.int (-a))
  | _ => none
section
variable {X : Cx} {fa : Option FA}
theorem opr_add : OpR X (binaryOp .Add) (fun x y H Q => rI0 (fun i j => .int (i + j)) x y H Q ∨ ((∃ i j, x = .str i ∧ y = .str j ∧ i.length + j.length ≤ sizeLine ∧ Q (.str (i ++ j)) H) ∨ (rCat x y H Q ∨ rCatA X.K x y H Q))) :=
  OpR.or op_add (OpR.or op_add_str (OpR.or op_cat op_catA))
theorem ok_add : OpOk X fa (fun x y H Q => rI0 (fun i j => .int (i + j)) x y H Q ∨ ((∃ i j, x = .str i ∧ y = .str j ∧ i.length + j.length ≤ sizeLine ∧ Q (.str (i ++ j)) H) ∨ (rCat x y H Q ∨ rCatA X.K x y H Q))) addD := by
  intro F H s x y a b Q h1 h2 ra rb h
  cases ra with
  | int i =>
    cases rb with
    | int j => exact .inl ⟨i, j, rfl, rfl, GoodO.here h1 h2 (.int _) h⟩
    | _ => exact h.elim
  | str i =>
    cases rb with
    | str j =>
      by_cases hl : i.length + j.length ≤ sizeLine
      · rw [show addD (.str i) (.str j) = some (.str (i ++ j)) from if_pos hl] at h
        exact .inr (.inl ⟨i, j, rfl, rfl, hl, GoodO.here h1 h2 (.str _) h⟩)
      · rw [show addD (.str i) (.str j) = none from if_neg hl] at h
        exact h.elim
    | _ => exact h.elim
  | @lst p xs vs hq r =>
    cases rb with
    | @lst p' ys ws hq' r' =>
      by_cases hl : xs.length + ys.length ≤ sizeLine
      · rw [show addD (.lst xs) (.lst ys) = some (.lst (xs ++ ys)) from if_pos hl] at h
        refine .inr (.inr (.inl ⟨p, p', vs, ws, rfl, rfl, h1 _ _ hq, h1 _ _ hq', by rw [← r.length, ← r'.length]; exact hl, fun q hn => ?_⟩))
        exact GoodO.new h1 h2 hn (.lst upd_same ((r.append r').mono (Ext.new (fa := fa) h1 hn).ff)) h
      · rw [show addD (.lst xs) (.lst ys) = none from if_neg hl] at h
        exact h.elim
    | _ => exact h.elim
  | @tup p xs vs hq r =>
    cases rb with
    | @tup p' ys ws hq' r' =>
      by_cases hl : xs.length + ys.length ≤ sizeLine
      · rw [show addD (.tup xs) (.tup ys) = some (.tup (xs ++ ys)) from if_pos hl] at h
        refine .inr (.inr (.inr ⟨p, p', vs, ws, rfl, rfl, same_seqT h1 hq, same_seqT h1 hq', by rw [← r.length, ← r'.length]; exact hl, fun e => ?_, fun _ e => ?_, fun _ _ q hn => ?_⟩))
        · subst e
          cases r
          exact GoodO.here h1 h2 (.tup hq' r') h
        · subst e
          cases r'
          rw [List.append_nil] at h
          exact GoodO.here h1 h2 (.tup hq r) h
        · exact GoodO.new h1 h2 hn (.tup (SqT.of upd_same) ((r.append r').mono (Ext.new (fa := fa) h1 hn).ff)) h
      · rw [show addD (.tup xs) (.tup ys) = none from if_neg hl] at h
        exact h.elim
    | _ => exact h.elim
  | _ => exact h.elim
theorem ok_sub : OpOk X fa (rI0 fun i j => .int (i - j)) subD := by
  intro F H s x y a b Q h1 h2 ra rb h
  cases ra with
  | int i =>
    cases rb with
    | int j => exact ⟨i, j, rfl, rfl, GoodO.here h1 h2 (.int _) h⟩
    | _ => exact h.elim
  | _ => exact h.elim
theorem opr_mul : OpR X (binaryOp .Mult) (fun x y H Q => rI CMul (fun i j => .int (i * j)) x y H Q ∨ rRep x y H Q) := OpR.or op_mul op_rep
theorem RepL.rep {K : PySem.W.Frag} {F : Hp} {ds : List D} {vs : List V} (h : RepL K fa F ds vs) : ∀ k : Nat, RepL K fa F (List.replicate k ds).flatten (List.replicate k vs).flatten
  | 0 => .nil
  | k + 1 => by
    rw [List.replicate_succ, List.replicate_succ, List.flatten_cons, List.flatten_cons]
    exact h.append (RepL.rep h k)
theorem ok_mul : OpOk X fa (fun x y H Q => rI CMul (fun i j => .int (i * j)) x y H Q ∨ rRep x y H Q) mulD := by
  intro F H s x y a b Q h1 h2 ra rb h
  cases ra with
  | int i =>
    cases rb with
    | int j =>
      by_cases hl : (-(2 ^ 64) < i ∧ i < 2 ^ 64) ∨ (-(2 ^ 64) < j ∧ j < 2 ^ 64)
      · rw [show mulD (.int i) (.int j) = some (.int (i * j)) from if_pos hl] at h
        exact .inl ⟨i, j, rfl, rfl, hl, GoodO.here h1 h2 (.int _) h⟩
      · rw [show mulD (.int i) (.int j) = none from if_neg hl] at h
        exact h.elim
    | _ => exact h.elim
  | @lst p xs vs hq r =>
    cases rb with
    | int k =>
      by_cases hl : -(2 ^ 63) ≤ k ∧ k < 2 ^ 63 ∧ xs.length * k.toNat ≤ sizeLine
      · rw [show mulD (.lst xs) (.int k) = some (.lst (List.replicate k.toNat xs).flatten) from if_pos hl] at h
        refine .inr ⟨p, k, vs, rfl, rfl, h1 _ _ hq, hl.1, hl.2.1, by rw [← r.length]; exact hl.2.2, fun q hn => ?_⟩
        exact GoodO.new h1 h2 hn (.lst upd_same ((r.rep k.toNat).mono (Ext.new (fa := fa) h1 hn).ff)) h
      · rw [show mulD (.lst xs) (.int k) = none from if_neg hl] at h
        exact h.elim
    | _ => exact h.elim
  | _ => exact h.elim
theorem ok_mod : OpOk X fa (rI (fun _ j => 0 < j) fun i j => .int (i % j)) modD := by
  intro F H s x y a b Q h1 h2 ra rb h
  cases ra with
  | int i =>
    cases rb with
    | int j =>
      by_cases hl : 0 < j
      · rw [show modD (.int i) (.int j) = some (.int (i % j)) from if_pos hl] at h
        exact ⟨i, j, rfl, rfl, hl, GoodO.here h1 h2 (.int _) h⟩
      · rw [show modD (.int i) (.int j) = none from if_neg hl] at h
        exact h.elim
    | _ => exact h.elim
  | _ => exact h.elim
theorem ok_fdiv : OpOk X fa (rI CDiv fun i j => .int (i / j)) fdivD := by
  intro F H s x y a b Q h1 h2 ra rb h
  cases ra with
  | int i =>
    cases rb with
    | int j =>
      by_cases hl : 0 < j ∧ j < 1073741824
      · rw [show fdivD (.int i) (.int j) = some (.int (i / j)) from if_pos hl] at h
        exact ⟨i, j, rfl, rfl, hl, GoodO.here h1 h2 (.int _) h⟩
      · rw [show fdivD (.int i) (.int j) = none from if_neg hl] at h
        exact h.elim
    | _ => exact h.elim
  | _ => exact h.elim
theorem ok_pow : OpOk X fa (rI CPow fun i j => .int (i ^ j.toNat)) powD := by
  intro F H s x y a b Q h1 h2 ra rb h
  cases ra with
  | int i =>
    cases rb with
    | int j =>
      by_cases hl : 0 ≤ j ∧ j ≤ 1000000 ∧ i.natAbs < 2 ^ 64
      · rw [show powD (.int i) (.int j) = some (.int (i ^ j.toNat)) from if_pos hl] at h
        exact ⟨i, j, rfl, rfl, hl, GoodO.here h1 h2 (.int _) h⟩
      · rw [show powD (.int i) (.int j) = none from if_neg hl] at h
        exact h.elim
    | _ => exact h.elim
  | _ => exact h.elim
theorem ok_neg : UnOk X fa (rU fun i => .int (-i)) negD := by
  intro F H s x a Q h1 h2 ra h
  cases ra with
  | int i => exact ⟨i, rfl, GoodO.here h1 h2 (.int _) h⟩
  | _ => exact h.elim

/-! ### comparisons -/
def ltD : D → D → Option D
  | .int a, .int b => some (.bl (decide (a < b)))
  | _, _ => none
def leD : D → D → Option D
  | .int a, .int b => some (.bl (decide (a ≤ b)))
  | _, _ => none
def gtD : D → D → Option D
  | .int a, .int b => some (.bl (decide (b < a)))
  | _, _ => none
def geD : D → D → Option D
  | .int a, .int b => some (.bl (decide (b ≤ a)))
  | _, _ => none
theorem ok_intb {g : Int → Int → Bool} {gD : D → D → Option D} (h0 : ∀ i j, gD (.int i) (.int j) = some (.bl (g i j))) (h1 : ∀ a b, gD a b ≠ none → ∃ i j, a = .int i ∧ b = .int j) : OpOk X fa (rI0 fun i j => .bl (g i j)) gD := by
  intro F H s x y a b Q e1 e2 ra rb h
  have hn : gD a b ≠ none := fun e => by rw [e] at h; exact h
  obtain ⟨i, j, rfl, rfl⟩ := h1 a b hn
  cases ra
  cases rb
  rw [h0] at h
  exact ⟨i, j, rfl, rfl, GoodO.here e1 e2 (.bl _) h⟩
theorem ok_lt : OpOk X fa (rI0 fun i j => .bl (decide (i < j))) ltD := ok_intb (fun _ _ => rfl) fun a b h => by
  cases a <;> cases b <;> first | exact ⟨_, _, rfl, rfl⟩ | exact absurd rfl h
theorem ok_le : OpOk X fa (rI0 fun i j => .bl (decide (i ≤ j))) leD := ok_intb (fun _ _ => rfl) fun a b h => by
  cases a <;> cases b <;> first | exact ⟨_, _, rfl, rfl⟩ | exact absurd rfl h
theorem ok_gt : OpOk X fa (rI0 fun i j => .bl (decide (j < i))) gtD := ok_intb (fun _ _ => rfl) fun a b h => by
  cases a <;> cases b <;> first | exact ⟨_, _, rfl, rfl⟩ | exact absurd rfl h
theorem ok_ge : OpOk X fa (rI0 fun i j => .bl (decide (j ≤ i))) geD := ok_intb (fun _ _ => rfl) fun a b h => by
  cases a <;> cases b <;> first | exact ⟨_, _, rfl, rfl⟩ | exact absurd rfl h

/-- a flat value -/
def scalV : D → Option V
  | .non => some .non
  | .bl b => some (.bl b)
  | .int i => some (.int i)
  | .str x => some (.str x)
  | _ => none
theorem scalV_rep {K : PySem.W.Frag} {F : Hp} {d : D} {v w : V} (h : scalV d = some w) (r : Rep K fa F d v) : v = w := by
  cases r <;> first | (cases h; rfl) | cases h
mutual
/-- data for the library's == -/
def pyD : D → Option PyData
  | .non => some .none
  | .bl b => some (.bool b)
  | .int i => some (.int i)
  | .str x => some (.str x)
  | .tup xs => (pyL xs).map .tuple
  | .lst xs => (pyL xs).map .list
  | .dic _ => none
  | .feed => none
  | .opq _ => none
  | .scr _ => none
  | .ins _ _ => none
def pyL : List D → Option (List PyData)
  | [] => some []
  | x :: xs => (pyD x).bind fun y => (pyL xs).map fun ys => y :: ys
end
mutual
theorem dp_of' {K : PySem.W.Frag} {fa : Option FA} {F H : Hp} (h1 : Same F H) : ∀ {d : D} {v : V}, Rep K fa F d v → ∀ p : PyData, pyD d = some p → Dp K H v p
  | _, _, .non, _, e => by cases e; exact .non
  | _, _, .bl b, _, e => by cases e; exact .bl b
  | _, _, .int i, _, e => by cases e; exact .int i
  | _, _, .str x, _, e => by cases e; exact .str x
  | _, _, .feed φ _, _, e => by cases e
  | _, _, .opq v, _, e => by cases e
  | _, _, .scr _, _, e => by cases e
  | _, _, .dic _ _, _, e => by cases e
  | _, _, .ins _ _ _, _, e => by cases e
  | _, _, .tup (xs := xs) h r, p, e => by
    rw [pyD] at e
    cases q : pyL xs with
    | none => rw [q] at e; cases e
    | some ps => rw [q] at e; cases e; exact .tup (same_seqT h1 h) (dps_of' h1 r ps q)
  | _, _, .lst (xs := xs) h r, p, e => by
    rw [pyD] at e
    cases q : pyL xs with
    | none => rw [q] at e; cases e
    | some ps => rw [q] at e; cases e; exact .lst (SqL.of (h1 _ _ h)) (dps_of' h1 r ps q)
theorem dps_of' {K : PySem.W.Frag} {fa : Option FA} {F H : Hp} (h1 : Same F H) : ∀ {ds : List D} {vs : List V}, RepL K fa F ds vs → ∀ ps : List PyData, pyL ds = some ps → DpAll K H vs ps
  | _, _, .nil, _, e => by rw [pyL] at e; cases e; exact .nil
  | _, _, .cons (d := d) (ds := ds) r t, ps, e => by
    rw [pyL] at e
    cases q : pyD d with
    | none => rw [q] at e; cases e
    | some y =>
      rw [q] at e
      cases q2 : pyL ds with
      | none => rw [q2] at e; cases e
      | some ys => rw [q2] at e; cases e; exact .cons (dp_of' h1 r y q) (dps_of' h1 t ys q2)
end
theorem dp_of {K : PySem.W.Frag} {F H : Hp} (h1 : Same F H) {d : D} {v : V} {p : PyData} (e : pyD d = some p) (r : Rep K fa F d v) : Dp K H v p := dp_of' h1 r p e
/-- a == b -/
def eqB (a b : D) : Option Bool :=
  match scalV a, scalV b with
  | some x, some y => if scal x y = true then some (decide (x = y)) else eqP a b
  | _, _ => eqP a b
where eqP (a b : D) : Option Bool := match pyD a, pyD b with
  | some p, some q => if SeqAt.shaped p = true ∧ SeqAt.shaped q = true then some (PyData.eqv p q) else none
  | _, _ => none
def eqD (a b : D) : Option D := (eqB a b).map .bl
def neD (a b : D) : Option D := (eqB a b).map fun k => .bl (!k)
theorem opr_eq (hu : X.A.units + 64 < cLine) : OpR X (compareOp .Eq) (fun x y H Q => rEq x y H Q ∨ rEqD X.K x y H Q) := OpR.or op_eq (op_eqD hu)
theorem opr_ne (hu : X.A.units + 64 < cLine) : OpR X (compareOp .NotEq) (fun x y H Q => rNe x y H Q ∨ rNeD X.K x y H Q) := OpR.or op_ne (op_neD hu)
theorem eqB_cases {F H : Hp} {x y : V} {a b : D} {k : Bool} (h1 : Same F H) (ra : Rep X.K fa F a x) (rb : Rep X.K fa F b y) (h : eqB a b = some k) :
    (scal x y = true ∧ k = decide (x = y)) ∨ ∃ d e, Dp X.K H x d ∧ Dp X.K H y e ∧ SeqAt.shaped d = true ∧ SeqAt.shaped e = true ∧ k = PyData.eqv d e := by
  have part : eqB.eqP a b = some k → ∃ d e, Dp X.K H x d ∧ Dp X.K H y e ∧ SeqAt.shaped d = true ∧ SeqAt.shaped e = true ∧ k = PyData.eqv d e := fun h => by
    unfold eqB.eqP at h
    cases q : pyD a with
    | none => rw [q] at h; cases h
    | some p =>
      cases q2 : pyD b with
      | none => rw [q, q2] at h; cases h
      | some p2 =>
        rw [q, q2] at h
        dsimp only at h
        by_cases hs : SeqAt.shaped p = true ∧ SeqAt.shaped p2 = true
        · rw [if_pos hs] at h
          cases h
          exact ⟨p, p2, dp_of h1 q ra, dp_of h1 q2 rb, hs.1, hs.2, rfl⟩
        · rw [if_neg hs] at h
          cases h
  unfold eqB at h
  cases q : scalV a with
  | none => rw [q] at h; exact .inr (part h)
  | some u =>
    cases q2 : scalV b with
    | none => rw [q, q2] at h; exact .inr (part h)
    | some w =>
      rw [q, q2] at h
      dsimp only at h
      obtain rfl := scalV_rep q ra
      obtain rfl := scalV_rep q2 rb
      by_cases hs : scal x y = true
      · rw [if_pos hs] at h
        cases h
        exact .inl ⟨hs, rfl⟩
      · rw [if_neg hs] at h
        exact .inr (part h)
theorem ok_eq : OpOk X fa (fun x y H Q => rEq x y H Q ∨ rEqD X.K x y H Q) eqD := by
  intro F H s x y a b Q h1 h2 ra rb h
  unfold eqD at h
  cases q : eqB a b with
  | none => rw [q] at h; exact h.elim
  | some k =>
    rw [q] at h
    have z : Q (.bl k) H := GoodO.here h1 h2 (.bl k) h
    rcases eqB_cases h1 ra rb q with ⟨e1, e2⟩ | ⟨d, e, e1, e2, e3, e4, e5⟩
    · exact .inl ⟨e1, by rw [← e2]; exact z⟩
    · exact .inr ⟨d, e, e1, e2, e3, e4, by rw [← e5]; exact z⟩
theorem ok_ne : OpOk X fa (fun x y H Q => rNe x y H Q ∨ rNeD X.K x y H Q) neD := by
  intro F H s x y a b Q h1 h2 ra rb h
  unfold neD at h
  cases q : eqB a b with
  | none => rw [q] at h; exact h.elim
  | some k =>
    rw [q] at h
    have z : Q (.bl (!k)) H := GoodO.here h1 h2 (.bl _) h
    rcases eqB_cases h1 ra rb q with ⟨e1, e2⟩ | ⟨d, e, e1, e2, e3, e4, e5⟩
    · exact .inl ⟨e1, by rw [← e2]; exact z⟩
    · exact .inr ⟨d, e, e1, e2, e3, e4, by rw [← e5]; exact z⟩
def isNon : D → Bool
  | .non => true
  | _ => false
/-- is None, is not None (of data: nothing opaque) -/
def isD : D → D → Option D
  | .opq _, _ => none
  | a, .non => some (.bl (isNon a))
  | _, _ => none
def isnD : D → D → Option D
  | .opq _, _ => none
  | a, .non => some (.bl (!isNon a))
  | _, _ => none
theorem isNon_rep {K : PySem.W.Frag} {F : Hp} {d : D} {v : V} (ho : ∀ w, d ≠ .opq w) (r : Rep K fa F d v) : decide (v = .non) = isNon d := by
  cases r <;> first | rfl | exact absurd rfl (ho _)
theorem ok_is : OpOk X fa (fun x y H Q => y = .non ∧ Q (.bl (decide (x = .non))) H) isD := by
  intro F H s x y a b Q h1 h2 ra rb h
  have ho : ∀ w, a ≠ .opq w := fun w e => by subst e; exact h
  cases rb with
  | non =>
    have e : isD a .non = some (.bl (isNon a)) := by cases a <;> first | rfl | exact absurd rfl (ho _)
    rw [e, ← isNon_rep ho ra] at h
    exact ⟨rfl, GoodO.here h1 h2 (.bl _) h⟩
  | _ => cases a <;> exact h.elim
theorem ok_isn : OpOk X fa (fun x y H Q => y = .non ∧ Q (.bl (!decide (x = .non))) H) isnD := by
  intro F H s x y a b Q h1 h2 ra rb h
  have ho : ∀ w, a ≠ .opq w := fun w e => by subst e; exact h
  cases rb with
  | non =>
    have e : isnD a .non = some (.bl (!isNon a)) := by cases a <;> first | rfl | exact absurd rfl (ho _)
    rw [e, ← isNon_rep ho ra] at h
    exact ⟨rfl, GoodO.here h1 h2 (.bl _) h⟩
  | _ => cases a <;> exact h.elim
end
end DL

set_option Elab.async false
set_option linter.all false
set_option maxRecDepth 100000
set_option maxHeartbeats 2000000
/-! The data layer: membership, items, slices, built-in functions. -/
namespace DL
open PySem PySem.Spec PyProof.Rows L2

theorem dget_rd {H : Hp} {a : Addr} {kvs : List (Key × V)} {k : Key} (e : Rd H a (.dK kvs)) : DGet H a (kV k) (valV kvs k) := .inl ⟨kvs, k, e, rfl, rfl⟩
theorem call_lenR {X : Cx} : CallR X (.builtin "len") (fun xs H Q => ∃ a kvs, xs = [V.ref a] ∧ Rd H a (.dK kvs) ∧ Q (.int kvs.length) H) := by
  intro pins s σ H xs us Q I r h
  obtain ⟨a, kvs, rfl, ha, q⟩ := h
  obtain ⟨u, rfl, ru⟩ := vals1 r
  cases ru
  exact d_len I ha fun t s' I' => ⟨.int kvs.length, H, I', ⟨t, rfl⟩, q⟩
def lookD (kvs : List (Key × D)) (k : Key) : Option D := (kvs.find? fun kv => decide (kv.1 = k)).map (·.2)
def flatL : List D → Option (List V)
  | [] => some []
  | x :: xs => (scalV x).bind fun v => (flatL xs).map fun vs => v :: vs
section
variable {K : PySem.W.Frag} {fa : Option FA} {F H : Hp}
theorem lookD_rep {k : Key} : ∀ {xs : List (Key × D)} {vs : List (Key × V)}, RepK K fa F xs vs → (∀ d, lookD xs k = some d → ∃ v, valV vs k = some v ∧ Rep K fa F d v) ∧ (lookD xs k = none → valV vs k = none)
  | _, _, .nil => ⟨fun d h => by simp [lookD] at h, fun _ => rfl⟩
  | (k', d') :: xs, (_, v') :: vs, .cons r t => by
    obtain ⟨i1, i2⟩ := lookD_rep (k := k) t
    by_cases e : k' = k
    · refine ⟨fun d h => ?_, fun h => ?_⟩
      · have z : lookD ((k', d') :: xs) k = some d' := by simp [lookD, e]
        rw [z] at h
        cases h
        exact ⟨v', by rw [valV_pos e], r⟩
      · have z : lookD ((k', d') :: xs) k = some d' := by simp [lookD, e]
        rw [z] at h
        cases h
    · have z : lookD ((k', d') :: xs) k = lookD xs k := by simp [lookD, e]
      rw [z]
      rw [valV_neg (p := (k', v')) e]
      exact ⟨i1, i2⟩
theorem flatL_rep : ∀ {xs : List D} {vs ws : List V}, flatL xs = some ws → RepL K fa F xs vs → vs = ws
  | _, _, _, h, .nil => by cases h; rfl
  | x :: xs, v :: vs, ws, h, .cons r t => by
    rw [flatL] at h
    cases q : scalV x with
    | none => rw [q] at h; cases h
    | some u =>
      rw [q] at h
      cases q2 : flatL xs with
      | none => rw [q2] at h; cases h
      | some us =>
        rw [q2] at h
        cases h
        rw [scalV_rep q r, flatL_rep q2 t]
theorem scalV_flat {d : D} {v : V} (h : scalV d = some v) : flatV v = true := by
  cases d <;> first | (cases h; rfl) | cases h
theorem flatL_flat : ∀ {xs : List D} {vs : List V}, flatL xs = some vs → vs.all flatV = true
  | [], _, h => by cases h; rfl
  | x :: xs, vs, h => by
    rw [flatL] at h
    cases q : scalV x with
    | none => rw [q] at h; cases h
    | some u =>
      rw [q] at h
      cases q2 : flatL xs with
      | none => rw [q2] at h; cases h
      | some us =>
        rw [q2] at h
        cases h
        rw [List.all_cons, scalV_flat q, flatL_flat q2]
        rfl
end
/-- x in y -/
def inB (x y : D) : Option Bool :=
  match x, y with
  | .str a, .str b => some (!(Builtin.Str.occurrences b a 0 b.length 1).isEmpty)
  | a, .dic kvs => (keyD a).map fun k => (lookD kvs k).isSome
  | a, .tup xs => (scalV a).bind fun v => (flatL xs).map fun vs => inV v vs
  | a, .lst xs => match scalV a, flatL xs with
    | some v, some vs => some (inV v vs)
    | _, _ => (pyD a).bind fun p => (pyL xs).bind fun ps => if SeqAt.shaped p = true ∧ SeqAt.shaped (.list ps) = true then some (ps.any fun z => PyData.eqv z p) else none
  | _, _ => none
def inD (x y : D) : Option D := (inB x y).map .bl
def ninD (x y : D) : Option D := (inB x y).map fun k => .bl (!k)
section
variable {X : Cx} {fa : Option FA} {W : L2.St → XK} {a b c e o : Expr} {es rest : List Expr} {pos p apos cpos : Pos} {f1 f2 f3 : Env' → M D} {fl : Env' → M (List D)}
def rInDk : R2 := fun x y H Q => ∃ a ov, y = .ref a ∧ DGet H a x ov ∧ Q (.bl ov.isSome) H
def rNInDk : R2 := fun x y H Q => ∃ a ov, y = .ref a ∧ DGet H a x ov ∧ Q (.bl (!ov.isSome)) H
theorem op_in_dk (hu : X.A.units + 1 < cLine) : OpR X (compareOp .In) rInDk := by
  intro pins s σ H x y v u Q I rx ry h
  obtain ⟨a, ov, rfl, g, q⟩ := h
  obtain rfl : u = Value.ref a := ry
  exact d_in hu I g rx fun s3 I3 => ⟨.bl ov.isSome, H, I3, rfl, q⟩
theorem op_nin_dk (hu : X.A.units + 1 < cLine) : OpR X (compareOp .NotIn) rNInDk := by
  intro pins s σ H x y v u Q I rx ry h
  obtain ⟨a, ov, rfl, g, q⟩ := h
  obtain rfl : u = Value.ref a := ry
  exact d_notIn hu I g rx fun s3 I3 => ⟨.bl (!ov.isSome), H, I3, rfl, q⟩
def rInAll (K : PySem.W.Frag) : R2 := fun x y H Q => (∃ i j, x = .str i ∧ y = .str j ∧ Q (.bl (!(Builtin.Str.occurrences j i 0 j.length 1).isEmpty)) H) ∨ (rInDk x y H Q ∨ (rIn K false x y H Q ∨ rInD K x y H Q))
def rNInAll (K : PySem.W.Frag) : R2 := fun x y H Q => (∃ i j, x = .str i ∧ y = .str j ∧ Q (.bl (!(!(Builtin.Str.occurrences j i 0 j.length 1).isEmpty))) H) ∨ (rNInDk x y H Q ∨ (rIn K true x y H Q ∨ rNotInD K x y H Q))
theorem opr_in (hu : X.A.units + 65 < cLine) : OpR X (compareOp .In) (rInAll X.K) := OpR.or op_in_str (OpR.or (op_in_dk (by omega)) (OpR.or op_in_seq (op_inD hu)))
theorem opr_nin (hu : X.A.units + 65 < cLine) : OpR X (compareOp .NotIn) (rNInAll X.K) := OpR.or op_notin_str (OpR.or (op_nin_dk (by omega)) (OpR.or op_notIn_seq (op_notInD hu)))
theorem inB_cases {F H : Hp} {x y : V} {a b : D} {k : Bool} (h1 : Same F H) (ra : Rep X.K fa F a x) (rb : Rep X.K fa F b y) (h : inB a b = some k) :
    (∃ i j, x = .str i ∧ y = .str j ∧ k = !(Builtin.Str.occurrences j i 0 j.length 1).isEmpty) ∨ (∃ p ov, y = .ref p ∧ DGet H p x ov ∧ k = ov.isSome) ∨ (∃ p xs, y = .ref p ∧ (SqL X.K H p xs ∨ SqT X.K H p xs) ∧ flatV x = true ∧ xs.all flatV = true ∧ k = inV x xs) ∨
      ∃ d ds, Dp X.K H x d ∧ Dp X.K H y (.list ds) ∧ SeqAt.shaped d = true ∧ SeqAt.shaped (.list ds) = true ∧ k = ds.any fun z => PyData.eqv z d := by
  cases rb with
  | str j =>
    cases ra with
    | str i => cases h; exact .inl ⟨i, j, rfl, rfl, rfl⟩
    | _ => cases h
  | @dic p kvs vs hq r =>
    have h' : (keyD a).map (fun k => (lookD kvs k).isSome) = some k := by cases a <;> exact h
    cases q : keyD a with
    | none => rw [q] at h'; cases h'
    | some kk =>
      rw [q] at h'
      have hk := Option.some.inj h'
      obtain rfl := key_rep q ra
      refine .inr (.inl ⟨p, _, rfl, dget_rd (k := kk) (same_rd h1 hq), ?_⟩)
      obtain ⟨i1, i2⟩ := lookD_rep (k := kk) r
      rw [← hk]
      show (lookD kvs kk).isSome = (valV vs kk).isSome
      cases q2 : lookD kvs kk with
      | none => rw [i2 q2]; rfl
      | some d =>
        obtain ⟨v, hv, _⟩ := i1 d q2
        rw [hv]
        rfl
  | @tup p xs vs hq r =>
    have h' : ((scalV a).bind fun v => (flatL xs).map fun vs => inV v vs) = some k := by cases a <;> exact h
    cases q : scalV a with
    | none => rw [q] at h'; cases h'
    | some w =>
      rw [q] at h'
      change ((flatL xs).map fun vs => inV w vs) = some k at h'
      cases q2 : flatL xs with
      | none => rw [q2] at h'; cases h'
      | some ws =>
        rw [q2] at h'
        have hk := Option.some.inj h'
        obtain rfl := scalV_rep q ra
        obtain rfl := flatL_rep q2 r
        exact .inr (.inr (.inl ⟨p, _, rfl, .inr (same_seqT h1 hq), scalV_flat q, flatL_flat q2, hk.symm⟩))
  | @lst p xs vs hq r =>
    have part : ((pyD a).bind fun p => (pyL xs).bind fun ps => if SeqAt.shaped p = true ∧ SeqAt.shaped (.list ps) = true then some (ps.any fun z => PyData.eqv z p) else none) = some k → ∃ d ds, Dp X.K H x d ∧ Dp X.K H (.ref p) (.list ds) ∧ SeqAt.shaped d = true ∧ SeqAt.shaped (.list ds) = true ∧ k = ds.any fun z => PyData.eqv z d := fun h => by
      cases q : pyD a with
      | none => rw [q] at h; cases h
      | some d =>
        rw [q] at h
        change ((pyL xs).bind fun ps => if SeqAt.shaped d = true ∧ SeqAt.shaped (.list ps) = true then some (ps.any fun z => PyData.eqv z d) else none) = some k at h
        cases q2 : pyL xs with
        | none => rw [q2] at h; cases h
        | some ds =>
          rw [q2] at h
          change (if SeqAt.shaped d = true ∧ SeqAt.shaped (.list ds) = true then some (ds.any fun z => PyData.eqv z d) else none) = some k at h
          by_cases hs : SeqAt.shaped d = true ∧ SeqAt.shaped (.list ds) = true
          · rw [if_pos hs] at h
            exact ⟨d, ds, dp_of h1 q ra, .lst (SqL.of (h1 _ _ hq)) (dps_of' h1 r _ q2), hs.1, hs.2, (Option.some.inj h).symm⟩
          · rw [if_neg hs] at h
            cases h
    have h' : (match scalV a, flatL xs with
      | some v, some vs => some (inV v vs)
      | _, _ => (pyD a).bind fun p => (pyL xs).bind fun ps => if SeqAt.shaped p = true ∧ SeqAt.shaped (.list ps) = true then some (ps.any fun z => PyData.eqv z p) else none) = some k := by cases a <;> exact h
    cases q : scalV a with
    | none => rw [q] at h'; exact .inr (.inr (.inr (part h')))
    | some w =>
      cases q2 : flatL xs with
      | none => rw [q, q2] at h'; exact .inr (.inr (.inr (part h')))
      | some ws =>
        rw [q, q2] at h'
        have hk := Option.some.inj h'
        obtain rfl := scalV_rep q ra
        obtain rfl := flatL_rep q2 r
        exact .inr (.inr (.inl ⟨p, _, rfl, .inl (SqL.of (h1 _ _ hq)), scalV_flat q, flatL_flat q2, hk.symm⟩))
  | _ => cases a <;> cases h
theorem ok_in : OpOk X fa (rInAll X.K) inD := by
  intro F H s x y a b Q h1 h2 ra rb h
  unfold inD at h
  cases q : inB a b with
  | none => rw [q] at h; exact h.elim
  | some k =>
    rw [q] at h
    have z : Q (.bl k) H := GoodO.here h1 h2 (.bl k) h
    rcases inB_cases h1 ra rb q with ⟨i, j, e1, e2, e3⟩ | ⟨p, ov, e1, e2, e3⟩ | ⟨p, xs, e1, e2, e3, e4, e5⟩ | ⟨d, ds, e1, e2, e3, e4, e5⟩
    · exact .inl ⟨i, j, e1, e2, by rw [← e3]; exact z⟩
    · exact .inr (.inl ⟨p, ov, e1, e2, by rw [← e3]; exact z⟩)
    · exact .inr (.inr (.inl ⟨p, xs, e1, e2, e3, e4, by rw [if_neg Bool.false_ne_true, ← e5]; exact z⟩))
    · exact .inr (.inr (.inr ⟨d, ds, e1, e2, e3, e4, by rw [← e5]; exact z⟩))
theorem ok_nin : OpOk X fa (rNInAll X.K) ninD := by
  intro F H s x y a b Q h1 h2 ra rb h
  unfold ninD at h
  cases q : inB a b with
  | none => rw [q] at h; exact h.elim
  | some k =>
    rw [q] at h
    have z : Q (.bl (!k)) H := GoodO.here h1 h2 (.bl _) h
    rcases inB_cases h1 ra rb q with ⟨i, j, e1, e2, e3⟩ | ⟨p, ov, e1, e2, e3⟩ | ⟨p, xs, e1, e2, e3, e4, e5⟩ | ⟨d, ds, e1, e2, e3, e4, e5⟩
    · exact .inl ⟨i, j, e1, e2, by rw [← e3]; exact z⟩
    · exact .inr (.inl ⟨p, ov, e1, e2, by rw [← e3]; exact z⟩)
    · exact .inr (.inr (.inl ⟨p, xs, e1, e2, e3, e4, by rw [if_pos rfl, ← e5]; exact z⟩))
    · exact .inr (.inr (.inr ⟨d, ds, e1, e2, e3, e4, by rw [← e5]; exact z⟩))

/-! ### items, slices -/
def ixD : D → D → Option D
  | .lst xs, .int i => atI xs i
  | .tup xs, .int i => atI xs i
  | .str z, .int i => if z.length ≤ sizeLine then (atI z.cps.toList i).map fun c => .str ⟨#[c]⟩ else none
  | .dic kvs, k => (keyD k).bind fun k => lookD kvs k
  | _, _ => none
def rIxD : R2 := fun x y H Q => ∃ a v, x = .ref a ∧ DGet H a y (some v) ∧ Q v H
theorem ix_dk (hu : X.A.units + 1 < cLine) : IxR X rIxD := by
  intro value slice pins s σ H x y v u Q I rx ry h hs
  obtain ⟨a, w, rfl, g, q⟩ := h
  obtain rfl : v = Value.ref a := rx
  exact PyProof.Rows.tail_any (dict_typeIs I g) PySem.F.slot_dict_getitem.lookup (d_getItem hu I g ry fun w' s3 I3 rw' => ⟨w, H, I3, rw', q⟩) hs
theorem RepL.atI {K : PySem.W.Frag} {F : Hp} {ds : List D} {vs : List V} {i : Int} {d : D} (r : RepL K fa F ds vs) (h : atI ds i = some d) : ∃ v, L2.atI vs i = some v ∧ Rep K fa F d v := by
  unfold L2.atI at h ⊢
  rw [← r.length]
  cases q : ixN ds.length i with
  | none => rw [q] at h; cases h
  | some j =>
    rw [q] at h
    exact r.get' h
theorem ok_ix : OpOk X fa (fun x y H Q => rIx X.K x y H Q ∨ rIxD x y H Q) ixD := by
  intro F H s x y a b Q h1 h2 ra rb h
  cases ra with
  | lst hq r =>
    cases rb with
    | int i =>
      change GoodO X fa F H s (atI _ i) Q at h
      cases q : atI _ i with
      | none => rw [q] at h; exact h.elim
      | some d =>
        rw [q] at h
        obtain ⟨v, hv, rv⟩ := r.atI q
        exact .inl (.inl ⟨_, _, i, v, rfl, rfl, SqL.of (h1 _ _ hq), hv, GoodO.here h1 h2 rv h⟩)
    | _ => exact h.elim
  | tup hq r =>
    cases rb with
    | int i =>
      change GoodO X fa F H s (atI _ i) Q at h
      cases q : atI _ i with
      | none => rw [q] at h; exact h.elim
      | some d =>
        rw [q] at h
        obtain ⟨v, hv, rv⟩ := r.atI q
        exact .inl (.inr (.inl ⟨_, _, i, v, rfl, rfl, same_seqT h1 hq, hv, GoodO.here h1 h2 rv h⟩))
    | _ => exact h.elim
  | str z =>
    cases rb with
    | int i =>
      change GoodO X fa F H s (if z.length ≤ sizeLine then (atI z.cps.toList i).map fun c => .str ⟨#[c]⟩ else none) Q at h
      by_cases hl : z.length ≤ sizeLine
      · rw [if_pos hl] at h
        cases q : atI z.cps.toList i with
        | none => rw [q] at h; exact h.elim
        | some c =>
          rw [q] at h
          exact .inl (.inr (.inr ⟨z, i, c, rfl, rfl, hl, q, GoodO.here h1 h2 (.str _) h⟩))
      · rw [if_neg hl] at h
        exact h.elim
    | _ => exact h.elim
  | @dic p kvs vs hq r =>
    have h' : GoodO X fa F H s ((keyD b).bind fun k => lookD kvs k) Q := by cases b <;> exact h
    cases q : keyD b with
    | none => rw [q] at h'; exact h'.elim
    | some k =>
      rw [q] at h'
      change GoodO X fa F H s (lookD kvs k) Q at h'
      cases q2 : lookD kvs k with
      | none => rw [q2] at h'; exact h'.elim
      | some d =>
        rw [q2] at h'
        obtain ⟨v, hv, rv⟩ := (lookD_rep (k := k) r).1 d q2
        obtain rfl := key_rep q rb
        refine .inr ⟨p, v, rfl, ?_, GoodO.here h1 h2 rv h'⟩
        rw [← hv]
        exact dget_rd (k := k) (same_rd h1 hq)
  | _ => cases b <;> exact h.elim
theorem ed_ix (hu : X.A.units + 1 < cLine) (ha : ED X fa W a f1) (hb : ED X fa W b f2) (hs : PlainIx b := by exact fun _ _ => rfl) : ED X fa W (.Subscript a b pos) (dOp ixD f1 f2) := by
  obtain ⟨ta, pa, ka⟩ := ha
  obtain ⟨tb, pb, kb⟩ := hb
  exact ⟨_, pe_ix (ix_seq.or (ix_dk hu)) pa pb hs, tok_op ok_ix ka kb⟩
/-- an optional part of a slice -/
def OJ (X : Cx) (fa : Option FA) (W : L2.St → XK) (e : Option Expr) (f : Env' → M (Option Int)) : Prop := ∃ t, PO X e t ∧
  ∀ (σ : L2.St) (F H : Hp) (ρ : Env') (s : FS) (Q : Option Int → Hp → Prop), Same F H → FeedOk X.K fa F H s → EnvOk X.K fa F σ ρ →
    (match f ρ s with
      | .bad => False
      | .ok i s' => ∀ F' H', Ext fa F H F' H' → FeedOk X.K fa F' H' s' → Q i H'
      | .err e s' => ∀ cls dd F' H', Ext fa F H F' H' → FeedOk X.K fa F' H' s' → RepX X.K X.mg fa F' H' e cls dd → W σ cls dd H') → t σ H Q
def intD : D → Option (Option Int)
  | .int i => some (some i)
  | _ => none
def oNo : Env' → M (Option Int) := fun _ => M.pure none
def oSome (f : Env' → M D) : Env' → M (Option Int) := fun ρ => (f ρ).bind fun x => M.lift (intD x)
theorem oj_none : OJ X fa W none oNo := ⟨_, po_none, fun σ F H ρ s Q h1 h2 h3 h => h F H (Ext.refl h1) h2⟩
theorem oj_some (ha : ED X fa W e f1) : OJ X fa W (some e) (oSome f1) := by
  obtain ⟨t, p, k⟩ := ha
  refine ⟨_, po_some p, fun σ F H ρ s Q h1 h2 h3 h => ?_⟩
  refine k σ F H ρ s _ h1 h2 h3 ?_
  unfold oSome at h
  change (match (f1 ρ s).bnd (fun x => M.lift (intD x)) with
      | .bad => False
      | .ok i s' => ∀ F' H', Ext fa F H F' H' → FeedOk X.K fa F' H' s' → Q i H'
      | .err e s' => ∀ cls dd F' H', Ext fa F H F' H' → FeedOk X.K fa F' H' s' → RepX X.K X.mg fa F' H' e cls dd → W σ cls dd H') at h
  generalize f1 ρ s = r at h
  cases r with
  | bad => exact h
  | err e s' => exact h
  | ok x s' =>
    intro v F' H' e o r
    cases r with
    | int i => exact ⟨i, rfl, h F' H' e o⟩
    | _ => exact h.elim
def slD (x : D) (lo hi : Option Int) : Option D :=
  match x with
  | .lst xs => some (.lst ((xs.drop (HT.sIx xs.length 0 lo)).take (HT.sIx xs.length xs.length hi - HT.sIx xs.length 0 lo)))
  | .tup xs => some (.tup ((xs.drop (HT.sIx xs.length 0 lo)).take (HT.sIx xs.length xs.length hi - HT.sIx xs.length 0 lo)))
  | .scr ns => some (.lst (((ns.drop (HT.sIx ns.length 0 lo)).take (HT.sIx ns.length ns.length hi - HT.sIx ns.length 0 lo)).map D.int))
  | .str z => if z.length ≤ sizeLine then some (.str (L2.cutS z lo hi)) else none
  | _ => none
def dSl (f : Env' → M D) (lo hi : Env' → M (Option Int)) : Env' → M D := fun ρ => (f ρ).bind fun x => (lo ρ).bind fun l => (hi ρ).bind fun u => M.lift (slD x l u)
theorem RepL.cut {K : PySem.W.Frag} {F : Hp} {ds : List D} {vs : List V} (r : RepL K fa F ds vs) (lo hi : Option Int) : RepL K fa F ((ds.drop (HT.sIx ds.length 0 lo)).take (HT.sIx ds.length ds.length hi - HT.sIx ds.length 0 lo)) (cutV vs lo hi) := by
  unfold cutV
  rw [← r.length]
  exact (r.drop _).take _
theorem SlR.or {r r' : V → Option Int → Option Int → Hp → VK → Prop} (h : SlR X r) (h' : SlR X r') : SlR X (fun x lo hi H Q => r x lo hi H Q ∨ r' x lo hi H Q) := L2.SlR.or h h'
theorem ed_slice {lo hi : Option Expr} {p2 : Pos} {g1 g2 : Env' → M (Option Int)} (ha : ED X fa W e f1) (hl : OJ X fa W lo g1) (hu : OJ X fa W hi g2) : ED X fa W (.Subscript e (.Slice lo hi none p2) pos) (dSl f1 g1 g2) := by
  obtain ⟨ta, pa, ka⟩ := ha
  obtain ⟨tl, pl, kl⟩ := hl
  obtain ⟨tu, pu, ku⟩ := hu
  refine ⟨_, pe_slice (SlR.or sl_list (SlR.or L2.sl_tupA sl_str)) pa pl pu, fun σ F H ρ s Q h1 h2 h3 h => ?_⟩
  refine ka.then Good.tgt h1 h2 h3 h fun x s1 v F1 H1 e1 o1 r1 v1 h' => ?_
  refine kl σ F1 H1 ρ s1 _ e1.fh o1 v1 ?_
  change Good X fa (W σ) F1 H1 ((g1 ρ s1).bnd _) Q at h'
  generalize g1 ρ s1 = r at h'
  cases r with
  | bad => exact h'
  | err e s' => exact h'
  | ok i s2 =>
    intro F2 H2 e2 o2
    refine ku σ F2 H2 ρ s2 _ e2.fh o2 (v1.mono e2.ff) ?_
    change Good X fa (W σ) F1 H1 ((g2 ρ s2).bnd _) Q at h'
    generalize g2 ρ s2 = r at h'
    cases r with
    | bad => exact h'
    | err e s' => exact fun c dd F' H' e' => h' c dd F' H' (e2.trans e')
    | ok j s3 =>
      intro F3 H3 e3 o3
      have h4 : GoodO X fa F3 H3 s3 (slD x i j) Q := Good.lift (Good.tgt.of_ext (e2.trans e3) h')
      have r3 := r1.mono (e2.ff.trans e3.ff)
      clear r1
      cases r3 with
      | lst hq r =>
        refine .inl ⟨_, _, rfl, SqL.of (e3.fh _ _ hq), fun p hp => ?_⟩
        exact GoodO.new e3.fh o3 hp (.lst upd_same ((r.cut i j).mono (Ext.new (fa := fa) e3.fh hp).ff)) h4
      | @scr p ns hq =>
        refine .inl ⟨p, _, rfl, Same.seq e3.fh hq, fun q hp => ?_⟩
        refine GoodO.new e3.fh o3 hp (.lst upd_same ?_) h4
        have z := RepL.cut (RepL.ints (K := X.K) (fa := fa) (F := upd F3 q (.lst (cutV (ns.map V.int) i j))) ns) i j
        rw [List.length_map, ← List.map_drop, ← List.map_take] at z
        exact z
      | tup hq r =>
        refine .inr (.inl ⟨_, _, rfl, same_seqT e3.fh hq, fun hw => ?_, fun hw p hp => ?_⟩)
        · refine GoodO.here e3.fh o3 (.tup hq ?_) h4
          have z := r.cut i j
          have : ∀ (vs : List V), HT.sIx vs.length 0 i = 0 ∧ HT.sIx vs.length vs.length j = vs.length → cutV vs i j = vs := fun vs q => by
            unfold cutV
            rw [q.1, q.2]
            simp
          rw [this _ hw] at z
          exact z
        · exact GoodO.new e3.fh o3 hp (.tup (SqT.of upd_same) ((r.cut i j).mono (Ext.new (fa := fa) e3.fh hp).ff)) h4
      | str z =>
        change GoodO X fa F3 H3 s3 (if z.length ≤ sizeLine then some (.str (L2.cutS z i j)) else none) Q at h4
        by_cases hl : z.length ≤ sizeLine
        · rw [if_pos hl] at h4
          exact .inr (.inr ⟨z, rfl, hl, GoodO.here e3.fh o3 (.str _) h4⟩)
        · rw [if_neg hl] at h4
          exact h4.elim
      | _ => exact h4.elim
/-- d.get(k, x) -/
def dGet2 (f g h : Env' → M D) : Env' → M D := fun ρ => (f ρ).bind fun x => match x with
  | .dic kvs => (g ρ).bind fun k => (h ρ).bind fun z => M.lift ((keyD k).map fun k => (lookD kvs k).getD z)
  | _ => M.bad
theorem ed_get2 (hu : X.A.units + 1 < cLine) (ho : ED X fa W o f1) (ha : ED X fa W a f2) (hb : ED X fa W b f3) (base : attributeBase o "get" X.env (eval o X.env) = eval o X.env := by rfl)
    (few : ((backTo cpos (starEach [a, b] X.env)).all (fun x => !x.1) && (backToKw cpos (keywordEach [] X.env)).all (fun x => x.1.isSome) && decide (([a, b] : List Expr).length + ([] : List Keyword).length + (if ([] : List Keyword).isEmpty then 0 else 1) < 30)) = true := by rfl)
    (line : (apos.endLine == cpos.line) = true := by rfl) (trees : backTo cpos (starEach [a, b] X.env) = [(false, eval a X.env), (false, eval b X.env)] := by rfl) :
    ED X fa W (.Call (.Attribute o "get" apos) [a, b] [] cpos) (dGet2 f1 f2 f3) := by
  obtain ⟨to, po, ko⟩ := ho
  obtain ⟨ta, pa, ka⟩ := ha
  obtain ⟨tb, pb, kb⟩ := hb
  refine ⟨_, pe_dget2 hu po pa pb ⟨base, few, line, trees⟩, fun σ F H ρ s Q h1 h2 h3 h => ?_⟩
  refine ko.then Good.tgt h1 h2 h3 h fun x s1 v F1 H1 e1 o1 r1 v1 h' => ?_
  cases r1 with
  | @dic p kvs vs hq r =>
    refine ⟨p, rfl, .inl ⟨vs, same_rd e1.fh hq⟩, ?_⟩
    refine ka.then Good.tgt e1.fh o1 v1 h' fun kd s2 w F2 H2 e2 o2 r2 v2 h'' => ?_
    refine kb.then Good.tgt e2.fh o2 v2 h'' fun z s3 u F3 H3 e3 o3 r3 v3 h4 => ?_
    have h5 := Good.lift h4
    cases q : keyD kd with
    | none => rw [q] at h5; exact h5.elim
    | some k =>
      rw [q] at h5
      change GoodO X fa F3 H3 s3 (some ((lookD kvs k).getD z)) Q at h5
      obtain rfl := key_rep q r2
      refine ⟨_, dget_rd (k := k) (same_rd e3.fh (same_rd e3.ff (same_rd e2.ff hq))), ?_⟩
      obtain ⟨i1, i2⟩ := lookD_rep (k := k) (r.mono (e2.ff.trans e3.ff))
      cases q2 : lookD kvs k with
      | none =>
        rw [q2] at h5
        rw [i2 q2]
        exact GoodO.here e3.fh o3 r3 h5
      | some d =>
        rw [q2] at h5
        obtain ⟨v', hv, rv⟩ := i1 d q2
        rw [hv]
        exact GoodO.here e3.fh o3 rv h5
  | _ => exact h'.elim

/-! ### built-in functions -/
def lenD : List D → Option D
  | [.str z] => if z.length ≤ sizeLine then some (.int z.length) else none
  | [.lst xs] => some (.int xs.length)
  | [.tup xs] => some (.int xs.length)
  | [.dic xs] => some (.int xs.length)
  | _ => none
theorem crl_len : CallR X (.builtin "len") (fun xs H Q => (∃ p ys, xs = [.ref p] ∧ (SqL X.K H p ys ∨ SqT X.K H p ys) ∧ Q (.int ys.length) H) ∨ ((∃ z, xs = [.str z] ∧ z.length ≤ sizeLine ∧ Q (.int z.length) H) ∨ (∃ a kvs, xs = [V.ref a] ∧ Rd H a (.dK kvs) ∧ Q (.int kvs.length) H))) := CallR.or call_len_seq (CallR.or call_len_str call_lenR)
theorem one_arg {K : PySem.W.Frag} {F : Hp} {x : D} {as : List D} {xs : List V} (e : as = [x]) (r : RepL K fa F as xs) : ∃ v, xs = [v] ∧ Rep K fa F x v := by
  subst e
  cases r with
  | cons r t => cases t; exact ⟨_, rfl, r⟩
theorem ok_len : CallOk X fa (fun xs H Q => (∃ p ys, xs = [.ref p] ∧ (SqL X.K H p ys ∨ SqT X.K H p ys) ∧ Q (.int ys.length) H) ∨ ((∃ z, xs = [.str z] ∧ z.length ≤ sizeLine ∧ Q (.int z.length) H) ∨ (∃ a kvs, xs = [V.ref a] ∧ Rd H a (.dK kvs) ∧ Q (.int kvs.length) H))) lenD := by
  intro F H s xs as Q h1 h2 r h
  cases r with
  | nil => exact h.elim
  | cons r t =>
    cases t with
    | cons _ _ => cases r <;> exact h.elim
    | nil =>
      cases r with
      | lst hq r =>
        refine .inl ⟨_, _, rfl, .inl (SqL.of (h1 _ _ hq)), ?_⟩
        rw [← r.length]
        exact GoodO.here h1 h2 (.int _) h
      | tup hq r =>
        refine .inl ⟨_, _, rfl, .inr (same_seqT h1 hq), ?_⟩
        rw [← r.length]
        exact GoodO.here h1 h2 (.int _) h
      | dic hq r =>
        refine .inr (.inr ⟨_, _, rfl, same_rd h1 hq, ?_⟩)
        rw [← r.length]
        exact GoodO.here h1 h2 (.int _) h
      | str z =>
        by_cases hl : z.length ≤ sizeLine
        · rw [show lenD [.str z] = some (.int z.length) from if_pos hl] at h
          exact .inr (.inl ⟨z, rfl, hl, GoodO.here h1 h2 (.int _) h⟩)
        · rw [show lenD [.str z] = none from if_neg hl] at h
          exact h.elim
      | _ => exact h.elim
def listD : List D → Option D
  | [.lst xs] => some (.lst xs)
  | [.tup xs] => some (.lst xs)
  | _ => none
theorem ok_list : CallOk X fa (fun xs H Q => ∃ p ys, xs = [.ref p] ∧ (SqL X.K H p ys ∨ SqT X.K H p ys) ∧ ∀ l, H l = none → Q (.ref l) (upd H l (.lst ys))) listD := by
  intro F H s xs as Q h1 h2 r h
  cases r with
  | nil => exact h.elim
  | cons r t =>
    cases t with
    | cons _ _ => cases r <;> exact h.elim
    | nil =>
      cases r with
      | lst hq r => exact ⟨_, _, rfl, .inl (SqL.of (h1 _ _ hq)), fun p hp => GoodO.new h1 h2 hp (.lst upd_same (r.mono (Ext.new (fa := fa) h1 hp).ff)) h⟩
      | tup hq r => exact ⟨_, _, rfl, .inr (same_seqT h1 hq), fun p hp => GoodO.new h1 h2 hp (.lst upd_same (r.mono (Ext.new (fa := fa) h1 hp).ff)) h⟩
      | _ => exact h.elim
def tupleD : List D → Option D
  | [.lst xs] => some (.tup xs)
  | [.tup xs] => some (.tup xs)
  | _ => none
theorem ok_tuple : CallOk X fa (fun xs H Q => ∃ p ys, xs = [.ref p] ∧ ((SqL X.K H p ys ∧ ∀ l, H l = none → Q (.ref l) (upd H l (.tup ys))) ∨ (SqT X.K H p ys ∧ Q (.ref p) H))) tupleD := by
  intro F H s xs as Q h1 h2 r h
  cases r with
  | nil => exact h.elim
  | cons r t =>
    cases t with
    | cons _ _ => cases r <;> exact h.elim
    | nil =>
      cases r with
      | lst hq r => exact ⟨_, _, rfl, .inl ⟨SqL.of (h1 _ _ hq), fun p hp => GoodO.new h1 h2 hp (.tup (SqT.of upd_same) (r.mono (Ext.new (fa := fa) h1 hp).ff)) h⟩⟩
      | tup hq r => exact ⟨_, _, rfl, .inr ⟨same_seqT h1 hq, GoodO.here h1 h2 (.tup hq r) h⟩⟩
      | _ => exact h.elim
def intF : List D → Option D
  | [.int i] => some (.int i)
  | _ => none
theorem ok_int : CallOk X fa (fun xs H Q => (∃ i, xs = [.int i] ∧ Q (.int i) H) ∨ ∃ k, xs = [.bl k] ∧ Q (.int (if k then 1 else 0)) H) intF := by
  intro F H s xs as Q h1 h2 r h
  cases r with
  | nil => exact h.elim
  | cons r t =>
    cases t with
    | cons _ _ => cases r <;> exact h.elim
    | nil =>
      cases r with
      | int i => exact .inl ⟨i, rfl, GoodO.here h1 h2 (.int _) h⟩
      | _ => exact h.elim
def intsD : List D → Option (List Int)
  | [] => some []
  | .int i :: xs => (intsD xs).map fun r => i :: r
  | _ => none
def blsD : List D → Option (List Bool)
  | [] => some []
  | .bl i :: xs => (blsD xs).map fun r => i :: r
  | _ => none
theorem intsD_rep {K : PySem.W.Frag} {F : Hp} : ∀ {xs : List D} {vs : List V} {ns : List Int}, intsD xs = some ns → RepL K fa F xs vs → vs = ns.map V.int
  | _, _, _, h, .nil => by cases h; rfl
  | x :: xs, v :: vs, ns, h, .cons r t => by
    cases r with
    | int i =>
      rw [intsD] at h
      cases q : intsD xs with
      | none => rw [q] at h; cases h
      | some ms => rw [q] at h; cases h; rw [intsD_rep q t]; rfl
    | _ => cases h
theorem blsD_rep {K : PySem.W.Frag} {F : Hp} : ∀ {xs : List D} {vs : List V} {ns : List Bool}, blsD xs = some ns → RepL K fa F xs vs → vs = ns.map V.bl
  | _, _, _, h, .nil => by cases h; rfl
  | x :: xs, v :: vs, ns, h, .cons r t => by
    cases r with
    | bl i =>
      rw [blsD] at h
      cases q : blsD xs with
      | none => rw [q] at h; cases h
      | some ms => rw [q] at h; cases h; rw [blsD_rep q t]; rfl
    | _ => cases h
def maxL : List Int → Int
  | [] => 0
  | x :: xs => xs.foldl max x
theorem foldl_max : ∀ (xs : List Int) (a : Int), a ≤ xs.foldl max a ∧ (∀ x ∈ xs, x ≤ xs.foldl max a) ∧ (xs.foldl max a = a ∨ xs.foldl max a ∈ xs)
  | [], a => ⟨Int.le_refl _, fun _ h => by simp at h, .inl rfl⟩
  | x :: xs, a => by
    obtain ⟨h1, h2, h3⟩ := foldl_max xs (max a x)
    simp only [List.foldl_cons]
    refine ⟨by omega, fun y hy => ?_, ?_⟩
    · rcases List.mem_cons.mp hy with e | e
      · subst e; omega
      · exact h2 y e
    · rcases h3 with e | e
      · rcases Int.le_total a x with q | q
        · right; rw [e, Int.max_eq_right q]; exact List.mem_cons_self
        · left; rw [e, Int.max_eq_left q]
      · right; exact List.mem_cons_of_mem _ e
theorem maxL_uniq {ns : List Int} {m : Int} (h0 : m ∈ ns) (h : ∀ y ∈ ns, y ≤ m) : m = maxL ns := by
  cases ns with
  | nil => simp at h0
  | cons x xs =>
    obtain ⟨h1, h2, h3⟩ := foldl_max xs x
    show m = xs.foldl max x
    have a1 : m ≤ xs.foldl max x := by
      rcases List.mem_cons.mp h0 with e | e
      · rw [e]; exact h1
      · exact h2 m e
    have a2 : xs.foldl max x ≤ m := by
      rcases h3 with e | e
      · rw [e]; exact h x List.mem_cons_self
      · exact h _ (List.mem_cons_of_mem _ e)
    omega
/-- max of a list of ints; max(a, b) -/
def maxD : List D → Option D
  | [.lst xs] => (intsD xs).bind fun ns => if ns = [] then none else some (.int (maxL ns))
  | [.int a, .int b] => some (.int (if b > a then b else a))
  | _ => none
end
end DL

set_option Elab.async false
set_option linter.all false
set_option maxRecDepth 100000
set_option maxHeartbeats 2000000
/-! The data layer: more built-in functions; defs. -/
namespace DL
open PySem PySem.Spec PyProof.Rows L2
section
variable {X : Cx} {fa : Option FA} {W : L2.St → XK} {a b c e o : Expr} {es rest : List Expr} {pos p apos cpos : Pos} {f1 f2 f3 : Env' → M D} {fl : Env' → M (List D)}
theorem crl_max (hc : X.calm = true) : CallR X (.builtin "max") (fun xs H Q => rMax X.K xs H Q ∨ ∃ i j, xs = [.int i, .int j] ∧ Q (.int (if j > i then j else i)) H) := CallR.or (cr_max hc) (call_max2 hc)
theorem ok_max : CallOk X fa (fun xs H Q => rMax X.K xs H Q ∨ ∃ i j, xs = [.int i, .int j] ∧ Q (.int (if j > i then j else i)) H) maxD := by
  intro F H s xs as Q h1 h2 r h
  cases r with
  | nil => exact h.elim
  | cons r t =>
    cases t with
    | nil =>
      cases r with
      | @lst p xs vs hq r =>
        change GoodO X fa F H s ((intsD xs).bind fun ns => if ns = [] then none else some (.int (maxL ns))) Q at h
        cases q : intsD xs with
        | none => rw [q] at h; exact h.elim
        | some ns =>
          rw [q] at h
          change GoodO X fa F H s (if ns = [] then none else some (.int (maxL ns))) Q at h
          by_cases hn : ns = []
          · rw [if_pos hn] at h; exact h.elim
          · rw [if_neg hn] at h
            refine .inl ⟨p, ns, rfl, ?_, List.length_pos_iff.mpr hn, fun m hm hle => ?_⟩
            · rw [← intsD_rep q r]
              exact SqL.of (h1 _ _ hq)
            · rw [maxL_uniq hm hle]
              exact GoodO.here h1 h2 (.int _) h
      | _ => exact h.elim
    | cons r2 t2 =>
      cases t2 with
      | cons _ _ => cases r <;> cases r2 <;> exact h.elim
      | nil =>
        cases r with
        | int i =>
          cases r2 with
          | int j => exact .inr ⟨i, j, rfl, GoodO.here h1 h2 (.int _) h⟩
          | _ => exact h.elim
        | _ => cases r2 <;> exact h.elim
def min2D : List D → Option D
  | [.int a, .int b] => some (.int (if b < a then b else a))
  | _ => none
theorem ok_min2 : CallOk X fa (fun xs H Q => ∃ i j, xs = [.int i, .int j] ∧ Q (.int (if j < i then j else i)) H) min2D := by
  intro F H s xs as Q h1 h2 r h
  cases r with
  | nil => exact h.elim
  | cons r t =>
    cases t with
    | nil => cases r <;> exact h.elim
    | cons r2 t2 =>
      cases t2 with
      | cons _ _ => cases r <;> cases r2 <;> exact h.elim
      | nil =>
        cases r with
        | int i =>
          cases r2 with
          | int j => exact ⟨i, j, rfl, GoodO.here h1 h2 (.int _) h⟩
          | _ => exact h.elim
        | _ => cases r2 <;> exact h.elim
def allD : List D → Option D
  | [.lst xs] => (blsD xs).map fun bs => .bl (bs.all id)
  | _ => none
def anyD : List D → Option D
  | [.lst xs] => (blsD xs).map fun bs => .bl (bs.any id)
  | _ => none
def sumD : List D → Option D
  | [.lst xs] => (intsD xs).map fun bs => .int bs.sum
  | _ => none
theorem ok_all : CallOk X fa (rAll X.K) allD := by
  intro F H s xs as Q h1 h2 r h
  cases r with
  | nil => exact h.elim
  | cons r t =>
    cases t with
    | cons _ _ => cases r <;> exact h.elim
    | nil =>
      cases r with
      | @lst p xs vs hq r =>
        change GoodO X fa F H s ((blsD xs).map fun bs => .bl (bs.all id)) Q at h
        cases q : blsD xs with
        | none => rw [q] at h; exact h.elim
        | some bs =>
          rw [q] at h
          exact ⟨p, bs, rfl, by rw [← blsD_rep q r]; exact SqL.of (h1 _ _ hq), GoodO.here h1 h2 (.bl _) h⟩
      | _ => exact h.elim
theorem ok_any : CallOk X fa (rAny X.K) anyD := by
  intro F H s xs as Q h1 h2 r h
  cases r with
  | nil => exact h.elim
  | cons r t =>
    cases t with
    | cons _ _ => cases r <;> exact h.elim
    | nil =>
      cases r with
      | @lst p xs vs hq r =>
        change GoodO X fa F H s ((blsD xs).map fun bs => .bl (bs.any id)) Q at h
        cases q : blsD xs with
        | none => rw [q] at h; exact h.elim
        | some bs =>
          rw [q] at h
          exact ⟨p, bs, rfl, by rw [← blsD_rep q r]; exact SqL.of (h1 _ _ hq), GoodO.here h1 h2 (.bl _) h⟩
      | _ => exact h.elim
theorem ok_sum : CallOk X fa (rSum X.K) sumD := by
  intro F H s xs as Q h1 h2 r h
  cases r with
  | nil => exact h.elim
  | cons r t =>
    cases t with
    | cons _ _ => cases r <;> exact h.elim
    | nil =>
      cases r with
      | @lst p xs vs hq r =>
        change GoodO X fa F H s ((intsD xs).map fun bs => .int bs.sum) Q at h
        cases q : intsD xs with
        | none => rw [q] at h; exact h.elim
        | some bs =>
          rw [q] at h
          exact ⟨p, bs, rfl, by rw [← intsD_rep q r]; exact SqL.of (h1 _ _ hq), GoodO.here h1 h2 (.int _) h⟩
      | _ => exact h.elim

/-! ### isinstance with built-in classes -/
def tyD : D → Option String
  | .non => some "NoneType"
  | .bl _ => some "bool"
  | .int _ => some "int"
  | .str _ => some "str"
  | .tup _ => some "tuple"
  | .lst _ => some "list"
  | .dic _ => some "dict"
  | _ => none
theorem tyD_rep {F H : Hp} {d : D} {v : V} {t : String} (h1 : Same F H) (h : tyD d = some t) (r : Rep X.K fa F d v) : TyX X.K H v (.type t) := by
  cases r with
  | non => cases h; exact .base .non
  | bl b => cases h; exact .base (.bl b)
  | int b => cases h; exact .base (.int b)
  | str b => cases h; exact .base (.str b)
  | tup hq _ =>
    cases h
    rcases same_seqT h1 hq with (h | ⟨o, h⟩) | ⟨o, its, n, hk, hc, _⟩
    · exact .base (.tup h)
    · exact .fTuple h
    · exact .kTuple hk hc
  | lst hq _ => cases h; exact .base (.lst (h1 _ _ hq))
  | dic hq _ =>
    cases h
    rcases same_rd h1 hq with h | ⟨o, h⟩
    · exact .base (.dK h)
    · exact .fDict h
  | feed _ _ => cases h
  | opq _ => cases h
  | ins _ _ _ => cases h
  | scr _ => cases h
/-- isinstance(x, T) -/
def isiD : List D → Option D
  | [d, .opq (.ty T)] => (tyD d).bind fun t => (kitB t T).map .bl
  | _ => none
theorem ok_isi : CallOk X fa (rIsi X.K) isiD := by
  intro F H s xs as Q h1 h2 r h
  unfold isiD at h
  split at h
  · rename_i d T
    cases r with
    | cons r t =>
      cases t with
      | cons r2 t2 =>
        cases t2
        cases r2
        rename_i v'
        cases q : tyD d with
        | none => rw [q] at h; exact h.elim
        | some t =>
          rw [q] at h
          change GoodO X fa F H s ((kitB t T).map .bl) Q at h
          cases q2 : kitB t T with
          | none => rw [q2] at h; exact h.elim
          | some k =>
            rw [q2] at h
            exact ⟨v', .ty T, .type t, .type T, k, rfl, .ty T, tyD_rep h1 q r, kit_ty q2, GoodO.here h1 h2 (.bl _) h⟩
  · exact h.elim
/-- isinstance(x, (T, ..)), the tuple written there -/
def kitAnyB (t : String) : List String → Option Bool
  | [] => some false
  | c :: r => match kitB t c with
    | some true => some true
    | some false => kitAnyB t r
    | none => none
theorem kitAnyB_ok {K : PySem.W.Frag} {t : String} : ∀ {ts : List String} {k : Bool}, kitAnyB t ts = some k → PySem.W.kitAny K (.type t) (ts.map Value.type) = some k
  | [], k, h => by cases h; rfl
  | c :: r, k, h => by
    rw [kitAnyB] at h
    rw [List.map_cons, PySem.W.kitAny]
    cases q : kitB t c with
    | none => rw [q] at h; cases h
    | some b =>
      rw [q] at h
      rw [kit_ty q]
      cases b with
      | true => exact h
      | false => exact kitAnyB_ok h
def dIsi (ts : List String) (f : Env' → M D) : Env' → M D := fun ρ => (f ρ).bind fun x => M.lift ((tyD x).bind fun t => (kitAnyB t ts).map .bl)
theorem ed_isi2 {x t1 t2 : Str} {n1 n2 : String} {k : Nat} {p1 p2 tp : Pos} (ha : ED X fa W e f1) (hm : X.mg x = none) (m1 : X.mg t1 = none) (m2 : X.mg t2 = none) (hv : bootBuiltins x = some (.builtin "isinstance") := by decide +kernel) (v1 : bootBuiltins t1 = some (.type n1) := by decide +kernel) (v2 : bootBuiltins t2 = some (.type n2) := by decide +kernel)
    (hg : Gl X x := by rfl) (g1 : Gl X t1 := by rfl) (g2 : Gl X t2 := by rfl) (hn : x ≠ "__name__" := by decide) (w1 : t1 ≠ "__name__" := by decide) (w2 : t2 ≠ "__name__" := by decide) (hdb : (x == ("__debug__" : Str)) = false := by decide) (d1 : (t1 == ("__debug__" : Str)) = false := by decide) (d2 : (t2 == ("__debug__" : Str)) = false := by decide)
    (he : starEach [e, .Tuple [.Name t1 p1, .Name t2 p2] k tp] X.env = (false, eval e X.env) :: starEach [.Tuple [.Name t1 p1, .Name t2 p2] k tp] X.env := by rfl) (he2 : starEach [.Tuple [.Name t1 p1, .Name t2 p2] k tp] X.env = (false, eval (.Tuple [.Name t1 p1, .Name t2 p2] k tp) X.env) :: starEach [] X.env := by rfl)
    (s1 : starEach [.Name t1 p1, .Name t2 p2] X.env = (false, eval (.Name t1 p1) X.env) :: starEach [.Name t2 p2] X.env := by rfl) (s2 : starEach [.Name t2 p2] X.env = (false, eval (.Name t2 p2) X.env) :: starEach [] X.env := by rfl)
    (hpl : (backTo pos (starEach [.Tuple [.Name t1 p1, .Name t2 p2] k tp] X.env)).any (·.1) = false := by rfl) : ED X fa W (.Call (.Name x p) [e, .Tuple [.Name t1 p1, .Name t2 p2] k tp] [] pos) (dIsi [n1, n2] f1) := by
  obtain ⟨ta, pa, ka⟩ := ha
  refine ⟨_, pe_callB call_isiT hg hm hv (pa_cons pa (pa_cons (pe_tup (pa_cons (pe_bltn g1 m1 v1 (v := .ty n1) rfl w1 d1) (pa_cons (pe_bltn g2 m2 v2 (v := .ty n2) rfl w2 d2) pa_nil s2) s1)) pa_nil he2) he) hn hdb he hpl, fun σ F H ρ s Q h1 h2 h3 h => ?_⟩
  refine ka.then Good.tgt h1 h2 h3 h fun d s1 v F1 H1 e1 o1 r1 v1 h' => ?_
  refine ⟨by show 2 ≤ sizeLine; decide, fun tp hp => ?_⟩
  have h4 := Good.lift h'
  cases q : tyD d with
  | none => rw [q] at h4; exact h4.elim
  | some t =>
    rw [q] at h4
    change GoodO X fa F1 H1 s1 ((kitAnyB t [n1, n2]).map .bl) Q at h4
    cases q2 : kitAnyB t [n1, n2] with
    | none => rw [q2] at h4; exact h4.elim
    | some b =>
      rw [q2] at h4
      have en := Ext.new (fa := fa) (o := .tup [.ty n1, .ty n2]) e1.fh hp
      exact ⟨v, tp, [.ty n1, .ty n2], .type t, [.type n1, .type n2], b, rfl, upd_same, .cons (.ty n1) (.cons (.ty n2) .nil), tyD_rep (Same.trans e1.fh (fun b o z => by rw [upd_ne (ne_of_none z hp)]; exact z)) q r1, kitAnyB_ok q2, h4 (.bl b) _ _ en (o1.new e1.fh hp) (.bl b)⟩

/-! ### methods of data -/
theorem ed_mt {T id : String} {m : Str} {r : V → List V → Hp → VK → Prop} {g : D → List D → Option D} (pa0 : PlainAttrs T) (slot : Slot T m id) (hty : typeOf (.builtin id) = pure (.type "method_descriptor")) (hm : MtR X id r) (ok : MtOk X fa r g) (ty : ∀ F H d v, Same F H → Rep X.K fa F d v → tyD d = some T → tyV X.K T v H)
    (ht : ∀ d as, g d as ≠ none → tyD d = some T) (ho : ED X fa W o f1) (ha : LD X fa W (e :: es) fl) (hbase : attributeBase o m X.env (eval o X.env) = eval o X.env := by rfl)
    (hfew : ((backTo cpos (starEach (e :: es) X.env)).all (fun x => !x.1) && (backToKw cpos (keywordEach [] X.env)).all (fun x => x.1.isSome) && decide ((e :: es).length + ([] : List Keyword).length + (if ([] : List Keyword).isEmpty then 0 else 1) < 30)) = true := by rfl)
    (hline : (apos.endLine == cpos.line) = true := by rfl) (hs : starEach (e :: es) X.env = (false, eval e X.env) :: starEach es X.env := by rfl) (hplain : (backTo cpos (starEach es X.env)).any (·.1) = false := by rfl) :
    ED X fa W (.Call (.Attribute o m apos) (e :: es) [] cpos) (fun ρ => (f1 ρ).bind fun x => if tyD x = some T then (fl ρ).bind fun xs => M.lift (g x xs) else M.bad) := by
  obtain ⟨to, po, ko⟩ := ho
  obtain ⟨ta, pa, ka⟩ := ha
  refine ⟨_, pe_bm pa0 slot hty hm po pa hbase hfew hline hs hplain, fun σ F H ρ s Q h1 h2 h3 h => ?_⟩
  refine ko.then Good.tgt h1 h2 h3 h fun x s1 v F1 H1 e1 o1 r1 v1 h' => ?_
  by_cases hT : tyD x = some T
  · rw [if_pos hT] at h'
    refine ⟨ty F1 H1 x v e1.fh r1 hT, ?_⟩
    refine ka.then Good.tgt e1.fh o1 v1 h' fun xs s2 ws F2 H2 e2 o2 r2 v2 h'' => ?_
    exact ok F2 H2 s2 v ws x xs Q e2.fh o2 (r1.mono e2.ff) r2 (Good.lift h'')
  · rw [if_neg hT] at h'
    exact h'.elim
theorem tyV_list : ∀ F H d v, Same F H → Rep X.K fa F d v → tyD d = some "list" → tyV X.K "list" v H := by
  intro F H d v h1 r h
  cases r with
  | lst hq _ => exact .inl ⟨rfl, _, SqL.of (h1 _ _ hq)⟩
  | _ => first | cases h | (injection h with h; exact absurd h (by decide))
/-- xs.index(y), flat items -/
def indexD : D → List D → Option D
  | .lst xs, [y] => (scalV y).bind fun w => (flatL xs).bind fun vs => if vs.any (fun z => eqV z w) = true then some (.int (vs.findIdx fun z => eqV z w : Nat)) else none
  | _, _ => none
theorem ok_index : MtOk X fa (rIndex X.K) indexD := by
  intro F H s x xs a as Q h1 h2 r rs h
  cases r with
  | @lst p xs vs hq r =>
    cases rs with
    | nil => exact h.elim
    | cons ry t =>
      cases t with
      | cons _ _ => exact h.elim
      | nil =>
        rename_i y w'
        change GoodO X fa F H s ((scalV y).bind fun w => (flatL xs).bind fun vs => if vs.any (fun z => eqV z w) = true then some (.int (vs.findIdx fun z => eqV z w : Nat)) else none) Q at h
        cases q : scalV y with
        | none => rw [q] at h; exact h.elim
        | some w =>
          rw [q] at h
          change GoodO X fa F H s ((flatL xs).bind fun vs => if vs.any (fun z => eqV z w) = true then some (.int (vs.findIdx fun z => eqV z w : Nat)) else none) Q at h
          cases q2 : flatL xs with
          | none => rw [q2] at h; exact h.elim
          | some us =>
            rw [q2] at h
            change GoodO X fa F H s (if us.any (fun z => eqV z w) = true then some (.int (us.findIdx fun z => eqV z w : Nat)) else none) Q at h
            by_cases hs : us.any (fun z => eqV z w) = true
            · rw [if_pos hs] at h
              obtain rfl := scalV_rep q ry
              obtain rfl := flatL_rep q2 r
              obtain ⟨z, hz, hzw⟩ := List.any_eq_true.mp hs
              have hlt : vs.findIdx (fun z => eqV z w') < vs.length := List.findIdx_lt_length_of_exists ⟨z, hz, hzw⟩
              refine ⟨p, vs, w', _, _, rfl, rfl, SqL.of (h1 _ _ hq), scalV_flat q, flatL_flat q2, List.getElem?_eq_getElem hlt, List.findIdx_getElem (w := hlt), fun m z' hm hz' => ?_, GoodO.here h1 h2 (.int _) h⟩
              have hml : m < vs.length := (List.getElem?_eq_some_iff.mp hz').1
              have e := (List.getElem?_eq_some_iff.mp hz').2
              have := List.not_of_lt_findIdx (p := fun z => eqV z w') hm
              rw [← e]
              simpa using this
            · rw [if_neg hs] at h
              exact h.elim
  | _ => exact h.elim
end
end DL

set_option Elab.async false
set_option linter.all false
set_option maxRecDepth 100000
set_option maxHeartbeats 2000000
/-! The data layer: defs. -/
namespace DL
open PySem PySem.Spec PyProof.Rows L2

/-- a body as a function of its arguments: n names, k parameters -/
def runD (n k : Nat) (body : Sts → M (Fl × Sts)) : List D → M D := fun ds => if ds.length = k then (body (ds.map EV.d ++ List.replicate (n - k) .no)).bind fun p => match p.1 with
  | .nx => M.pure .non
  | .rt d => M.pure d
  | _ => M.bad
  else M.bad
/-- exceptions of a def leave it -/
theorem pass_def {P : Program} {w : World} {K : PySem.W.Frag} {mg : Str → Option Value} {base : Heap} {N : List Str} {qual : Str} {scope : Scope} {f : Addr} {cd : Value} {A : Around} {outer : List Env} {s : Shared} {H : Hp} {E : XK} :
    ∀ σ, PassesAt (L2.CX (cxOf (L2.CX P w) P w K mg base N qual scope f cd A outer s H E).prog (cxOf (L2.CX P w) P w K mg base N qual scope f cd A outer s H E).w) (cxOf (L2.CX P w) P w K mg base N qual scope f cd A outer s H E) σ ((fun _ => E) σ) :=
  fun σ => passAt (W := fun cls d _ H => E cls d H) (takes_of rfl rfl rfl rfl) σ
theorem pass_blk {X : Cx} {s : Shared} {H : Hp} {scope : Scope} {cenv : Env} {fp : List Addr} : ∀ σ, PassesAt (L2.CX X.prog X.w) (X.blk s H scope cenv fp) σ (Wno σ) := by
  intro σ pins H s e s' I c
  obtain ⟨_, _, _, _, _, _, _, _, _, _, _, _, h⟩ := c
  exact h
section
variable {P : Program} {w : World} {K : PySem.W.Frag} {mg : Str → Option Value} {base : Heap}
theorem SOk.start {fa : Option FA} {F H : Hp} {s : FS} {N : List Str} {ds : List D} {vs : List V} (h1 : Same F H) (h2 : FeedOk K fa F H s) (r : RepL K fa F ds vs) (hl : ds.length ≤ N.length) :
    SOk K fa F F H F H (fun _ => 0) (L2.start N vs) (ds.map EV.d ++ List.replicate (N.length - ds.length) .no) s := by
  have low : ∀ (i : Nat) ev, (ds.map EV.d ++ List.replicate (N.length - ds.length) EV.no)[i]? = some ev → (∃ d, ds[i]? = some d ∧ ev = .d d) ∨ ev = .no := fun i ev h => by
    by_cases hi : i < ds.length
    · rw [List.getElem?_append_left (by simpa using hi), List.getElem?_map] at h
      cases q : ds[i]? with
      | none => rw [q] at h; cases h
      | some d => rw [q] at h; cases h; exact .inl ⟨d, rfl, rfl⟩
    · rw [List.getElem?_append_right (by simp; omega), List.getElem?_replicate] at h
      split at h
      · cases h; exact .inr rfl
      · cases h
  refine ⟨Ext.refl h1, Same.refl _, h2, by unfold L2.start; simp [r.length], fun i ev h => ?_, fun i j e e' h _ ho => ?_⟩
  · rcases low i ev h with ⟨d, hd, rfl⟩ | rfl
    · obtain ⟨v, hv, rv⟩ := r.get' hd
      refine ⟨v, ?_, rv⟩
      unfold L2.start
      rw [List.getElem?_append_left (by simpa using (List.getElem?_eq_some_iff.mp hv).1), List.getElem?_map, hv]
      rfl
    · trivial
  · rcases low i e h with ⟨d, hd, rfl⟩ | rfl <;> cases ho
theorem dsp_len {n k : Nat} {body : Sts → M (Fl × Sts)} {vs : List V} {H : Hp} {Q : VK} {E : XK} (h : DSp K mg (runD n k body) vs H Q E) : vs.length = k := by
  obtain ⟨fa, F, s, ds, h1, h2, r, g⟩ := h
  rw [← r.length]
  by_cases e : ds.length = k
  · exact e
  · unfold runD at g
    rw [if_neg e] at g
    exact g.elim
/-- THE RULE: a def whose body does `body` computes runD body -/
theorem fn_d {x qual : Str} {st : Stmt} {f : Addr} {fd : FuncData} {N ps : List Str} {k : Nat} {body : Sts → M (Fl × Sts)} (F : Fun K x qual st f fd) (S : FnScope N ps (defScope st)) (hN : ps.length ≤ N.length)
    (hbody : ∀ (cdv : Value) (A : Around) (outer : List Env) (s : Shared) (H : Hp) (E : XK) (fa : Option FA), Room k (A.deeper (envOfC qual (defScope st) s.heap.objs.size f cdv)) →
      SSJ (cxOf (L2.CX P w) P w K mg base N qual (defScope st) f cdv A outer s H E) fa E (defBody st) body) :
    FnOk P w K mg base (L2.CX P w) (k + 1) f fd ps (DSp K mg (runD N.length ps.length body)) := by
  refine F.okX S (fun vs H Q E h => dsp_len h) fun cdv A outer s H vs Q E hr h => ?_
  obtain ⟨fa, Fz, fs, ds, h1, h2, r, g⟩ := h
  obtain ⟨t, p, kk⟩ := hbody cdv A outer s H E fa hr
  refine ⟨t, p, ?_⟩
  unfold runD at g
  by_cases e : ds.length = ps.length
  · rw [if_pos e] at g
    have S0 := SOk.start (N := N) h1 h2 r (by omega)
    rw [e] at S0
    refine kk Fz Fz H Fz H _ _ _ fs _ S0 ?_
    change GoodK K mg fa E Fz H ((body (ds.map EV.d ++ List.replicate (N.length - ps.length) .no) fs).bnd _) Q at g
    generalize body (ds.map EV.d ++ List.replicate (N.length - ps.length) .no) fs = rr at g
    cases rr with
    | bad => exact g
    | err e s' => exact g
    | ok q s' =>
      obtain ⟨fl, ρ'⟩ := q
      cases fl with
      | nx => exact fun σ' F' H' A' S' => g .non F' H' S'.ext S'.fd .non
      | rt d => exact fun v F' H' ex fo rv _ => g v F' H' ex fo rv
      | bk => exact g.elim
      | ct => exact g.elim
  · rw [if_neg e] at g
    exact g.elim

end
end DL

set_option Elab.async false
set_option linter.all false
set_option maxRecDepth 100000
set_option maxHeartbeats 2000000
/-! The data layer: a def that changes the feed in place. -/
namespace DL
open PySem PySem.Spec PyProof.Rows L2

def feedL (s : FS) : List D := [.lst (s.cells.map D.int), .int s.at_, .int s.rest, .int s.cnt, .int s.stir]
def fs0 : FS := ⟨[], 0, 0, 0, 0⟩
/-- the feed's list, the other slots (ints or nothing) -/
structure DS where
  L : List D
  ρ : List (Option Int)
def DS.env (d : DS) : Env' := some (.lst d.L) :: d.ρ.map fun o => o.map D.int
/-- the state of such a def: the feed at p -/
structure DJ (X : Cx) (p c0 : Addr) (F0 H0 H : Hp) (σ : L2.St) (d : DS) : Prop where
  le : Same F0 H
  hh : ∀ b o, H0 b = some o → b ≠ p → H b = some o
  al : ∀ b, H0 b ≠ none → H b ≠ none
  f0 : F0 p = none
  at_ : ∃ vs, H p = some (.lst vs) ∧ RepL X.K none F0 d.L vs ∧ vs[0]? = some (.ref c0)
  s0 : σ[0]? = some (some (.ref p))
  sl : ∀ (i : Nat) (k : Int), d.ρ[i]? = some (some k) → σ[i + 1]? = some (some (.int k))
  len : σ.length = d.ρ.length + 1
section
variable {X : Cx} {p c0 : Addr} {F0 H0 H : Hp} {σ : L2.St} {d : DS} {E : XK}
theorem DJ.envOk (J : DJ X p c0 F0 H0 H σ d) {vs : List V} (h : H p = some (.lst vs)) (r : RepL X.K none F0 d.L vs) : Same (upd F0 p (.lst vs)) H ∧ EnvOk X.K none (upd F0 p (.lst vs)) σ d.env := by
  have ff : Same F0 (upd F0 p (.lst vs)) := fun b o e => by rw [upd_ne (ne_of_none e J.f0)]; exact e
  refine ⟨fun b o e => ?_, by unfold DS.env; simp [J.len], fun i x hx => ?_⟩
  · by_cases hb : b = p
    · subst hb; rw [upd_same] at e; rw [h]; exact e
    · rw [upd_ne hb] at e; exact J.le b o e
  · unfold DS.env at hx
    match i, hx with
    | 0, hx =>
      cases hx
      exact ⟨_, J.s0, .lst upd_same (r.mono ff)⟩
    | i + 1, hx =>
      rw [List.getElem?_cons_succ, List.getElem?_map] at hx
      cases q : d.ρ[i]? with
      | none => rw [q] at hx; cases hx
      | some o =>
        rw [q] at hx
        cases o with
        | none => cases hx
        | some k =>
          cases hx
          exact ⟨_, J.sl i k q, .int k⟩
/-- an expression whose value is an int -/
theorem dj_eval {t : TE} {f : Env' → M D} (k : TOk X none Wno t f) (J : DJ X p c0 F0 H0 H σ d) {n : Int} {Q : VK} (hf : f d.env fs0 = .ok (.int n) fs0) (q : ∀ H', DJ X p c0 F0 H0 H' σ d → Q (.int n) H') : t σ H Q := by
  obtain ⟨vs, h, r, rc⟩ := J.at_
  obtain ⟨le, en⟩ := J.envOk h r
  refine k σ (upd F0 p (.lst vs)) H d.env fs0 Q le (fun φ e => nomatch e) en ?_
  rw [hf]
  intro v F' H' e fo rv
  cases rv
  have hp : F' p = some (.lst vs) := e.ff _ _ upd_same
  refine q H' ⟨fun b o z => e.fh _ _ (e.ff b o ?_), fun b o z hb => e.hh b o (J.hh b o z hb) fun φ z => (nomatch z), fun b z => e.al b (J.al b z), J.f0, ⟨vs, e.fh _ _ hp, r, rc⟩, J.s0, J.sl, J.len⟩
  rw [upd_ne (ne_of_none z J.f0)]
  exact z
theorem dj_test {t : TT} {f : Env' → M Bool} (k : TTOk X none Wno t f) (J : DJ X p c0 F0 H0 H σ d) {n : Bool} {Q : Bool → Hp → Prop} (hf : f d.env fs0 = .ok n fs0) (q : ∀ H', DJ X p c0 F0 H0 H' σ d → Q n H') : t σ H Q := by
  obtain ⟨vs, h, r, rc⟩ := J.at_
  obtain ⟨le, en⟩ := J.envOk h r
  refine k σ (upd F0 p (.lst vs)) H d.env fs0 Q le (fun φ e => nomatch e) en ?_
  rw [hf]
  intro F' H' e fo
  have hp : F' p = some (.lst vs) := e.ff _ _ upd_same
  refine q H' ⟨fun b o z => e.fh _ _ (e.ff b o ?_), fun b o z hb => e.hh b o (J.hh b o z hb) fun φ z => (nomatch z), fun b z => e.al b (J.al b z), J.f0, ⟨vs, e.fh _ _ hp, r, rc⟩, J.s0, J.sl, J.len⟩
  rw [upd_ne (ne_of_none z J.f0)]
  exact z
/-- a statement: what it makes of the state; a number is handed back -/
def SIK (X : Cx) (t : TS) (g : DS → Option (Option Int × DS)) : Prop :=
  ∀ (p c0 : Addr) (F0 H0 H : Hp) (σ : L2.St) (d : DS) (Dn : Ends), DJ X p c0 F0 H0 H σ d → (match g d with
    | none => False
    | some (none, d') => ∀ σ' H', DJ X p c0 F0 H0 H' σ' d' → Dn.nx σ' H'
    | some (some k, d') => ∀ σ' H', DJ X p c0 F0 H0 H' σ' d' → Dn.rt (.int k) H') → t Dn σ H
def SI (X : Cx) (st : Stmt) (g : DS → Option (Option Int × DS)) : Prop := ∃ t, PS X st t ∧ SIK X t g
def SIs (X : Cx) (st : List Stmt) (g : DS → Option (Option Int × DS)) : Prop := ∃ t, PSs X st t ∧ SIK X t g
/-- the number that an expression gives -/
def numOf (f : Env' → M D) (d : DS) : Option Int := match f d.env fs0 with
  | .ok (.int n) ⟨[], 0, 0, 0, 0⟩ => some n
  | _ => none
def boolOf (f : Env' → M Bool) (d : DS) : Option Bool := match f d.env fs0 with
  | .ok n ⟨[], 0, 0, 0, 0⟩ => some n
  | _ => none
theorem numOf_eq {f : Env' → M D} {n : Int} (h : numOf f d = some n) : f d.env fs0 = .ok (.int n) fs0 := by
  unfold numOf at h
  split at h
  · rename_i q
    cases h
    exact q
  · cases h
theorem boolOf_eq {f : Env' → M Bool} {n : Bool} (h : boolOf f d = some n) : f d.env fs0 = .ok n fs0 := by
  unfold boolOf at h
  split at h
  · rename_i q
    cases h
    exact q
  · cases h
def hNext : DS → Option (Option Int × DS) := fun d => some (none, d)
def hSeq (g g' : DS → Option (Option Int × DS)) : DS → Option (Option Int × DS) := fun d => (g d).bind fun q => match q.1 with
  | none => g' q.2
  | some k => some (some k, q.2)
def hSet (i : Nat) (f : Env' → M D) : DS → Option (Option Int × DS) := fun d => (numOf f d).map fun n => (none, ⟨d.L, d.ρ.set i (some n)⟩)
def hStore (f : Env' → M D) (k : Int) : DS → Option (Option Int × DS) := fun d => (numOf f d).bind fun n => (ixN d.L.length k).map fun j => (none, ⟨d.L.set j (.int n), d.ρ⟩)
def hIf (c : Env' → M Bool) (g g' : DS → Option (Option Int × DS)) : DS → Option (Option Int × DS) := fun d => (boolOf c d).bind fun k => if k = true then g d else g' d
def hRet (f : Env' → M D) : DS → Option (Option Int × DS) := fun d => (numOf f d).map fun n => (some n, d)
variable {e c : Expr} {f : Env' → M D} {g g' : DS → Option (Option Int × DS)} {st : Stmt} {sts sts' : List Stmt} {pos : Pos}
theorem sis_nil : SIs X [] hNext := ⟨_, pss_nil, fun p c0 F0 H0 H σ d Dn J h => h σ H J⟩
theorem sis_one (h : SI X st g) : SIs X [st] g := by
  obtain ⟨t, q, k⟩ := h
  exact ⟨_, pss_one q, k⟩
theorem sis_cons (h1 : SI X st g) (h2 : SIs X sts g') : SIs X (st :: sts) (hSeq g g') := by
  obtain ⟨t, q, k⟩ := h1
  obtain ⟨t', q', k'⟩ := h2
  refine ⟨_, pss_cons q q', fun p c0 F0 H0 H σ d Dn J h => ?_⟩
  refine k p c0 F0 H0 H σ d _ J ?_
  unfold hSeq at h
  cases r : g d with
  | none => rw [r] at h; exact h
  | some z =>
    rw [r] at h
    obtain ⟨o, d'⟩ := z
    cases o with
    | none => exact fun σ' H' J' => k' p c0 F0 H0 H' σ' d' Dn J' h
    | some n => exact h
theorem si_set {i : Nat} {x : Str} {pos' : Pos} (hN : X.N.Nodup) (he : ED X none Wno e f) (hi : X.N[i + 1]? = some x := by rfl) (hx : Loc X.env.scope x := by first | exact .inl rfl | exact .inr rfl) (hs : swapsWith e (some (.Name x pos')) pos.line X.env = pure false := by rfl)
    (hf : X.fn x = true ∨ X.env.scope.names.lookup x = some .local := by first | exact .inl rfl | exact .inr rfl | assumption) : SI X (.Assign [.Name x pos'] e pos) (hSet i f) := by
  obtain ⟨t, q, k⟩ := he
  refine ⟨_, ps_set hN hi hx q hs hf, fun p c0 F0 H0 H σ d Dn J h => ?_⟩
  unfold hSet at h
  cases r : numOf f d with
  | none => rw [r] at h; exact h.elim
  | some n =>
    rw [r] at h
    refine dj_eval k J (numOf_eq r) fun H' J' => h _ H' ⟨J'.le, J'.hh, J'.al, J'.f0, J'.at_, ?_, fun j m hj => ?_, by simp [J'.len]⟩
    · rw [List.getElem?_set_ne (by omega)]; exact J'.s0
    · by_cases hji : i = j
      · subst hji
        have hl : i < d.ρ.length := by
          have := (List.getElem?_eq_some_iff.mp hj).1
          simpa using this
        rw [List.getElem?_set_self hl] at hj
        cases hj
        rw [List.getElem?_set_self (by rw [J'.len]; omega)]
      · rw [List.getElem?_set_ne hji] at hj
        rw [List.getElem?_set_ne (by omega)]
        exact J'.sl j m hj
theorem ix_pos {j : Int} {n m : Nat} (hj : 0 < j) (h : ixN n j = some m) : m ≠ 0 := by
  unfold ixN at h
  rw [if_pos (by omega)] at h
  split at h
  · cases h; omega
  · cases h
theorem si_store {x : Str} {j : Int} {jj : Nat} {jp px pos' : Pos} (he : ED X none Wno e f) (ho : PE X (.Name x px) (tVar 0)) (hj : 0 < j := by decide) (hs : swapsWithSole [.Subscript (.Name x px) (.Constant (.int j) jj jp) pos'] e pos.line X.env = pure false := by rfl) (hw : swappedStores [.Subscript (.Name x px) (.Constant (.int j) jj jp) pos'] e X.env = pure none := by rfl)
    (h1 : (assignEach [.Subscript (.Name x px) (.Constant (.int j) jj jp) pos'] X.env).map (·.2) = [assign (.Subscript (.Name x px) (.Constant (.int j) jj jp) pos') X.env] := by rfl)
    (ha : ∀ v, assign (.Subscript (.Name x px) (.Constant (.int j) jj jp) pos') X.env v = (do
      let ov ← holding [v] (eval (.Name x px) X.env)
      let iv ← holding [v, ov] (eval (.Constant (.int j) jj jp) X.env)
      standAt pos'
      holding [v, ov, iv] (setItem ov iv v)
      release [v, ov, iv] []) := by intro _; rfl) : SI X (.Assign [.Subscript (.Name x px) (.Constant (.int j) jj jp) pos'] e pos) (hStore f j) := by
  obtain ⟨t, q, k⟩ := he
  refine ⟨_, ps_asg q (pg_sub ho pe_int set_list ha) hs hw h1, fun p c0 F0 H0 H σ d Dn J h => ?_⟩
  unfold hStore at h
  cases r : numOf f d with
  | none => rw [r] at h; exact h.elim
  | some n =>
    rw [r] at h
    change (match (ixN d.L.length j).map fun j => (none, (⟨d.L.set j (.int n), d.ρ⟩ : DS)) with
    | none => False
    | some (none, d') => ∀ σ' H', DJ X p c0 F0 H0 H' σ' d' → Dn.nx σ' H'
    | some (some k, d') => ∀ σ' H', DJ X p c0 F0 H0 H' σ' d' → Dn.rt (.int k) H') at h
    cases r2 : ixN d.L.length j with
    | none => rw [r2] at h; exact h.elim
    | some m =>
      rw [r2] at h
      refine dj_eval k J (numOf_eq r) fun H' J' => ?_
      obtain ⟨vs, hv, rl, rc⟩ := J'.at_
      refine ⟨_, J'.s0, p, vs, j, m, rfl, rfl, hv, by rw [← rl.length]; exact r2, ?_⟩
      refine h σ _ ⟨fun b o z => ?_, fun b o z hb => ?_, fun b z => ?_, J'.f0, ⟨_, upd_same, RepL.setI m (.int n) rl, by rw [List.getElem?_set_ne (ix_pos hj r2)]; exact rc⟩, J'.s0, J'.sl, J'.len⟩
      · rw [upd_ne (ne_of_none z J'.f0)]; exact J'.le b o z
      · rw [upd_ne hb]; exact J'.hh b o z hb
      · by_cases hb : b = p
        · subst hb; rw [upd_same]; simp
        · rw [upd_ne hb]; exact J'.al b z
theorem si_if {cc : Env' → M Bool} (hc : TD X none Wno c cc) (h1 : SIs X sts g) (h2 : SIs X sts' g') : SI X (.If c sts sts' pos) (hIf cc g g') := by
  obtain ⟨tc, qc, kc⟩ := hc
  obtain ⟨t, q, k⟩ := h1
  obtain ⟨t', q', k'⟩ := h2
  refine ⟨_, ps_if qc q q', fun p c0 F0 H0 H σ d Dn J h => ?_⟩
  unfold hIf at h
  cases r : boolOf cc d with
  | none => rw [r] at h; exact h.elim
  | some n =>
    rw [r] at h
    refine dj_test kc J (boolOf_eq r) fun H' J' => ?_
    cases n with
    | true => exact iteT (k p c0 F0 H0 H' σ d Dn J' h)
    | false => exact iteF (k' p c0 F0 H0 H' σ d Dn J' h)
theorem si_ret (he : ED X none Wno e f) : SI X (.Return (some e) pos) (hRet f) := by
  obtain ⟨t, q, k⟩ := he
  refine ⟨_, ps_ret q, fun p c0 F0 H0 H σ d Dn J h => ?_⟩
  unfold hRet at h
  cases r : numOf f d with
  | none => rw [r] at h; exact h.elim
  | some n =>
    rw [r] at h
    exact dj_eval k J (numOf_eq r) fun H' J' => h σ H' J'
end

/-! ### the promise -/
def feedFn (g : Int → M Int) : List D → M D
  | [.feed, .int i] => fun s => match g i s with
    | .ok k s' => .ok (.int k) s'
    | _ => .bad
  | _ => M.bad
theorem feedFn_shape (g : Int → M Int) (ds : List D) (fs : FS) : feedFn g ds fs = .bad ∨ ∃ i k s', ds = [.feed, .int i] ∧ g i fs = .ok k s' ∧ feedFn g ds fs = .ok (.int k) s' := by
  unfold feedFn
  split
  · rename_i i
    cases q : g i fs with
    | bad => exact .inl rfl
    | err e s => exact .inl rfl
    | ok k s' => exact .inr ⟨i, k, s', rfl, q, rfl⟩
  · exact .inl rfl
theorem fn_feed {P : Program} {w : World} {K : PySem.W.Frag} {mg : Str → Option Value} {base : Heap} {x qual : Str} {st : Stmt} {f : Addr} {fd : FuncData} {N ps : List Str} {k : Nat} {body : DS → Option (Option Int × DS)} {g : Int → M Int} (F : Fun K x qual st f fd) (S : FnScope N ps (defScope st)) (hN : ps.length = 2) (n : Nat) (hN2 : N.length = n + 2)
    (hg : ∀ (i : Int) (s s' : FS) (k : Int), s.Ok → g i s = .ok k s' → s'.Ok ∧ s'.cells = s.cells ∧ ∃ ρ', body ⟨feedL s, some i :: List.replicate n none⟩ = some (some k, ⟨feedL s', ρ'⟩))
    (hbody : ∀ (cdv : Value) (A : Around) (outer : List Env) (s : Shared) (H : Hp) (E : XK), Room k (A.deeper (envOfC qual (defScope st) s.heap.objs.size f cdv)) →
      SIs (cxOf (L2.CX P w) P w K mg base N qual (defScope st) f cdv A outer s H E) (defBody st) body) :
    FnOk P w K mg base (L2.CX P w) (k + 1) f fd ps (DSp K mg (feedFn g)) := by
  refine F.okX S (fun vs H Q E h => ?_) fun cdv A outer s H vs Q E hr h => ?_
  · obtain ⟨fa, Fz, fs, ds, h1, h2, r, gd⟩ := h
    rcases feedFn_shape g ds fs with q | ⟨i, z, s', rfl, q1, q2⟩
    · rw [q] at gd; exact gd.elim
    · rw [hN, ← r.length]; rfl
  · obtain ⟨fa, Fz, fs, ds, h1, h2, r, gd⟩ := h
    rcases feedFn_shape g ds fs with q | ⟨i, z, s', rfl, q1, q2⟩
    · rw [q] at gd; exact gd.elim
    · rw [q2] at gd
      obtain ⟨t, p, kk⟩ := hbody cdv A outer s H E hr
      refine ⟨t, p, ?_⟩
      cases r with
      | cons r0 r =>
        cases r with
        | cons r1 r =>
          cases r
          cases r1
          cases r0 with
          | feed φ hφ =>
            obtain ⟨f1, ⟨f2, f2'⟩, f3, f4⟩ := h2 φ hφ
            obtain ⟨ok', ce, ρ', hb⟩ := hg i fs s' z f2' q1
            refine kk φ.a φ.c Fz H H _ ⟨feedL fs, some i :: List.replicate n none⟩ _ ⟨h1, fun b o e _ => e, fun b e => e, f1, ⟨_, f3, .cons (.lst f4 ?_) (.cons (.int _) (.cons (.int _) (.cons (.int _) (.cons (.int _) .nil)))), rfl⟩, rfl, fun j m hj => ?_, ?_⟩ ?_
            · rw [f2]
              exact RepL.ints _
            · match j, hj with
              | 0, hj => cases hj; rfl
              | j + 1, hj =>
                simp only [List.getElem?_cons_succ] at hj
                rw [List.getElem?_replicate] at hj
                split at hj <;> cases hj
            · unfold L2.start
              simp [hN2]
            · rw [hb]
              rintro σ' H' J
              obtain ⟨us, g4, g5, g6⟩ := J.at_
              have ex : Ext fa Fz H Fz H' := ⟨Same.refl _, J.le, fun b o e nb => J.hh b o e fun z => nb φ hφ z.symm, fun _ _ => rfl, J.al⟩
              refine gd (.int z) Fz H' ex (fun φ' e => ?_) (.int z)
              have : φ' = φ := by rw [hφ] at e; cases e; rfl
              subst this
              refine ⟨f1, ⟨by rw [ce]; exact f2, ok'⟩, ?_, f4⟩
              rw [g4]
              -- the feed's items
              cases g5 with
              | cons a1 g5 =>
                cases g5 with
                | cons a2 g5 =>
                  cases g5 with
                  | cons a3 g5 =>
                    cases g5 with
                    | cons a4 g5 =>
                      cases g5 with
                      | cons a5 g5 =>
                        cases g5
                        cases a2
                        cases a3
                        cases a4
                        cases a5
                        cases g6
                        rfl
end DL

set_option Elab.async false
set_option linter.all false
set_option maxRecDepth 100000
set_option maxHeartbeats 2000000
/-! The data layer: repr, calls of defs, a law. -/
namespace DL
open PySem PySem.Spec PyProof.Rows L2

section
variable {X : Cx} {fa : Option FA} {W : L2.St → XK} {Wc : XK} {a b c e o : Expr} {es rest : List Expr} {pos p apos cpos : Pos} {f1 f2 f3 : Env' → M D} {fl : Env' → M (List D)} {st : Stmt} {sts : List Stmt}
/-! ### what is not reached -/
def gBad : Sts → M (Fl × Sts) := fun _ => M.bad
def dBad : Env' → M D := fun _ => M.bad
theorem sj_never : SJ X fa Wc st gBad := ⟨_, ps_never, fun B F0 H0 F H A σ ρ s Dn S h => h.elim⟩
theorem ssj_never : SSJ X fa Wc sts gBad := ⟨_, pss_never, fun B F0 H0 F H A σ ρ s Dn S h => h.elim⟩
theorem ed_never : ED X fa W e dBad := ⟨fun _ _ _ => False, ⟨fun pins s σ H Q I h => h.elim⟩, fun σ F H ρ s Q h1 h2 h3 h => h⟩

/-! ### repr -/
def reprD : List D → Option D
  | [.int i] => if i.natAbs.log2 < 1920 then some (.str (toString i)) else none
  | [.str x] => if (reprText x).length ≤ sizeLine then some (.str (reprText x)) else none
  | [.bl b] => some (.str (if b then "True" else "False"))
  | [.non] => some (.str "None")
  | _ => none
def rRepr : List V → Hp → VK → Prop := fun xs H Q => (∃ i : Int, xs = [.int i] ∧ i.natAbs.log2 < 1920 ∧ Q (.str (toString i)) H) ∨ (∃ x, xs = [.str x] ∧ (reprText x).length ≤ sizeLine ∧ Q (.str (reprText x)) H) ∨ (∃ b : Bool, xs = [.bl b] ∧ Q (.str (if b then "True" else "False")) H) ∨ (xs = [.non] ∧ Q (.str "None") H)
theorem cr_repr : CallR X (.builtin "repr") rRepr := by
  intro pins s σ H xs us Q I r h
  rcases h with ⟨i, rfl, hz, q⟩ | ⟨x, rfl, hz, q⟩ | ⟨k, rfl, q⟩ | ⟨rfl, q⟩
  · cases r with
    | cons r rr =>
      cases rr
      obtain ⟨t, rfl⟩ := r
      exact PySem.P.repr_of_int hz ⟨.str _, H, I.tok _, ⟨_, rfl⟩, q⟩
  · cases r with
    | cons r rr =>
      cases rr
      obtain ⟨t, rfl⟩ := r
      exact PySem.P.repr_of_str ⟨.str _, H, I.tok _, ⟨_, rfl⟩, q⟩ hz
  · cases r with
    | cons r rr =>
      cases rr
      cases r
      exact PySem.P.repr_of_bool ⟨.str _, H, I.tok _, ⟨_, rfl⟩, q⟩
  · cases r with
    | cons r rr =>
      cases rr
      cases r
      exact PySem.P.repr_of_none ⟨.str _, H, I.tok _, ⟨_, rfl⟩, q⟩
theorem ok_repr : CallOk X fa rRepr reprD := by
  intro F H s xs as Q h1 h2 r h
  cases r with
  | nil => exact h.elim
  | cons r t =>
    cases t with
    | cons _ _ => cases r <;> exact h.elim
    | nil =>
      cases r with
      | int i =>
        by_cases hl : i.natAbs.log2 < 1920
        · rw [show reprD [.int i] = some (.str (toString i)) from if_pos hl] at h
          exact .inl ⟨i, rfl, hl, GoodO.here h1 h2 (.str _) h⟩
        · rw [show reprD [.int i] = none from if_neg hl] at h
          exact h.elim
      | str x =>
        by_cases hl : (reprText x).length ≤ sizeLine
        · rw [show reprD [.str x] = some (.str (reprText x)) from if_pos hl] at h
          exact .inr (.inl ⟨x, rfl, hl, GoodO.here h1 h2 (.str _) h⟩)
        · rw [show reprD [.str x] = none from if_neg hl] at h
          exact h.elim
      | bl k => exact .inr (.inr (.inl ⟨k, rfl, GoodO.here h1 h2 (.str _) h⟩))
      | non => exact .inr (.inr (.inr ⟨rfl, GoodO.here h1 h2 (.str _) h⟩))
      | _ => exact h.elim
end

/-! ### calls of defs -/
/-- the module's name x is a def at level k that computes g -/
structure Cal (P : Program) (w : World) (K : PySem.W.Frag) (mg : Str → Option Value) (base : Heap) (k : Nat) (x : Str) (ps : List Str) (g : List D → M D) : Prop where
  ex : ∃ f fd, FnOk P w K mg base (L2.CX P w) k f fd ps (DSp K mg g) ∧ mg x = some (.ref f) ∧ PySem.W.keepIn K (.ref f) = true ∧ Binds K fd ps []
/-- a def of the text stands there -/
structure Dff (K : PySem.W.Frag) (mg : Str → Option Value) (x : Str) (ps : List Str) (st : Stmt) : Prop where
  ex : ∃ f fd, Fun K x x st f fd ∧ mg x = some (.ref f) ∧ Binds K fd ps []
section
variable {X : Cx} {fa : Option FA} {W : L2.St → XK} {e : Expr} {es : List Expr} {pos p : Pos} {fl : Env' → M (List D)}
theorem ed_cal {k : Nat} {ps : List Str} {g : List D → M D} {x : Str} (C : Cal X.prog X.w X.K X.mg X.base k x ps g) (hr : Room k X.A) (hx : ∀ σ, PassesAt (L2.CX X.prog X.w) X σ (W σ)) (ha : LD X fa W (e :: es) fl) (hg : Gl X x := by rfl) (hdb : (x == ("__debug__" : Str)) = false := by decide)
    (he : starEach (e :: es) X.env = (false, eval e X.env) :: starEach es X.env := by rfl) (hpl : (backTo pos (starEach es X.env)).any (·.1) = false := by rfl) : ED X fa W (.Call (.Name x p) (e :: es) [] pos) (dCall g fl) := by
  obtain ⟨f, fd, F, hm, hk, hb⟩ := C.ex
  exact ed_call F hr hm hk hb hx ha hg hdb he hpl
variable {P : Program} {w : World} {K : PySem.W.Frag} {mg : Str → Option Value} {base : Heap}
/-- no argument -/
theorem ed_cal0 {k : Nat} {g : List D → M D} {x : Str} (C : Cal X.prog X.w X.K X.mg X.base k x [] g) (hr : Room k X.A) (hx : Passes (L2.CX X.prog X.w) X (fun _ _ _ => False)) (hg : Gl X x := by rfl) (hdb : (x == ("__debug__" : Str)) = false := by decide) : ED X fa W (.Call (.Name x p) [] [] pos) (fun _ => M.quiet (g [])) := by
  obtain ⟨f, fd, F, hm, hk, hb⟩ := C.ex
  refine ⟨_, pe_call0 F hr hg hm hk hb .nil hx hdb, fun σ F H ρ s Q h1 h2 h3 h => ?_⟩
  unfold M.quiet at h
  dsimp only at h
  refine ⟨fa, F, s, [], h1, h2, .nil, ?_⟩
  cases q : g [] s with
  | bad => rw [q] at h; exact h
  | err e s' => rw [q] at h; exact h.elim
  | ok d s' => rw [q] at h; exact h
theorem cal_of {x : Str} {ps : List Str} {st : Stmt} {k : Nat} {g : List D → M D} (D0 : Dff K mg x ps st) (h : ∀ f fd, Fun K x x st f fd → FnOk P w K mg base (L2.CX P w) k f fd ps (DSp K mg g)) : Cal P w K mg base k x ps g := by
  obtain ⟨f, fd, F, hm, hb⟩ := D0.ex
  exact ⟨f, fd, h f fd F, hm, F.kp, hb⟩
theorem Cal.mono {x : Str} {ps : List Str} {j k : Nat} {g : List D → M D} (C : Cal P w K mg base j x ps g) (h : j ≤ k) : Cal P w K mg base k x ps g := by
  obtain ⟨f, fd, F, hm, hk, hb⟩ := C.ex
  exact ⟨f, fd, F.mono h, hm, hk, hb⟩
/-- nothing is promised -/
theorem cal_bad {x : Str} {ps : List Str} {st : Stmt} (D0 : Dff K mg x ps st) (k : Nat) : Cal P w K mg base k x ps (fun _ => M.bad) := by
  obtain ⟨f, fd, F, hm, hb⟩ := D0.ex
  refine ⟨f, fd, ⟨fun vs H Q E h => ?_, fun A outer s H args us vs Q E _ _ _ _ h => ?_⟩, hm, F.kp, hb⟩
  · obtain ⟨_, _, _, _, _, _, _, g⟩ := h
    exact g.elim
  · obtain ⟨_, _, _, _, _, _, _, g⟩ := h
    exact g.elim
theorem dff_mk {x : Str} {ps : List Str} {st : Stmt} {f : Addr} {oc : Value} {od an : Option Addr} {osl : Array (Option Value)} {kV doc pm cdv ct : Value} {h : Heap} (X : K.In h) (G : h.Ns mainGlobals mg)
    (a : PySem.W.nsIn K mainGlobals x = some (some (.ref f))) (l : K.lookup f = some ⟨oc, od, .func (PySem.W.fnOf x x (defArgs st) (defBody st) (defScope st) .none kV doc pm an cdv ct), osl⟩) (c : PySem.W.codeIn K cdv x = true) (kp : PySem.W.keepIn K (.ref f) = true)
    (hb : ∀ (kV doc pm : Value) (an : Option Addr) (cdv ct : Value) (us : List Value), us.length = ps.length → bindArgs (PySem.W.fnOf x x (defArgs st) (defBody st) (defScope st) .none kV doc pm an cdv ct) ⟨us, []⟩ = pure (ps.zip us)) : Dff K mg x ps st := by
  have F := fun_mk (st := st) l c kp
  exact ⟨f, _, F, PySem.W.mg_of X G a, F.binds hb⟩

/-! ### the law -/
theorem fn_cx0 {x qual : Str} {st : Stmt} {f : Addr} {fd : FuncData} {ps : List Str} {k : Nat} {sp : Sp} (F : FnOk P w K mg base (L2.CX P w) k f fd ps sp) (hE : ∀ vs H Q E E', sp vs H Q E → sp vs H Q E') : FnOk P w K mg base CX0 k f fd ps sp := by
  refine ⟨F.len, fun A outer s H args us vs Q E hr e0 hb r h => ?_⟩
  refine codeAny_mono (F.run A outer s H args us vs Q (fun _ _ _ => False) hr e0 hb r (hE _ _ _ _ _ h)) fun r s' hq => ?_
  cases r with
  | ok fl => cases fl <;> exact hq
  | error e =>
    obtain ⟨_, _, _, _, _, _, _, _, _, _, _, _, z⟩ := hq
    exact z
def spLaw (K : PySem.W.Frag) : Sp := fun vs H Q _ => ∃ (a : Addr) (ns : List Int), vs = [.ref a] ∧ SqL K H a (ns.map V.int) ∧ ns.length ≤ 63 ∧ ∀ H', Q (.bl true) H'
def stirOf (ns : List Int) : Int := ns.foldl (fun st c => (st * 40961 + c % 2147483029 + 77) % 2147483477) 10019
/-- the feed at its start -/
def fs1 (ns : List Int) : FS := ⟨ns, 0, 0, 0, stirOf ns⟩
theorem stir_ok (ns : List Int) : 0 ≤ stirOf ns ∧ stirOf ns < 2147483477 := by
  unfold stirOf
  have h : ∀ (l : List Int) (a : Int), (0 ≤ a ∧ a < 2147483477) → 0 ≤ l.foldl (fun st c => (st * 40961 + c % 2147483029 + 77) % 2147483477) a ∧ l.foldl (fun st c => (st * 40961 + c % 2147483029 + 77) % 2147483477) a < 2147483477 := by
    intro l
    induction l with
    | nil => exact fun a h => h
    | cons c r ih =>
      intro a h
      exact ih _ ⟨Int.emod_nonneg _ (by decide), Int.emod_lt_of_pos _ (by decide)⟩
  exact h ns _ (by decide)
theorem fn_law {st st0 : Stmt} {sts : List Stmt} {f : Addr} {fd : FuncData} {N : List Str} {k n : Nat} {ff : List D → M D} {g : Sts → M (Fl × Sts)} (F : Fun K "law" "law" st f fd) (S : FnScope N ["_law_script"] (defScope st)) (hN : N.length = n + 2) (hst : defBody st = st0 :: sts)
    (h0 : ∀ (cdv : Value) (A : Around) (outer : List Env) (s : Shared) (H : Hp) (E : XK), Room k (A.deeper (envOfC "law" (defScope st) s.heap.objs.size f cdv)) →
      SJ (cxOf (L2.CX P w) P w K mg base N "law" (defScope st) f cdv A outer s H E) none E st0 (gSet 1 (vMask (dCall ff (lCons (dVar 0) lNil)))))
    (hff : ∀ ns s, ns.length ≤ 63 → ff [.scr ns] s = .ok (.lst (feedL (fs1 ns))) s)
    (hbody : ∀ (cdv : Value) (A : Around) (outer : List Env) (s : Shared) (H : Hp) (E : XK) (fa : Option FA), Room k (A.deeper (envOfC "law" (defScope st) s.heap.objs.size f cdv)) →
      SSJ (cxOf (L2.CX P w) P w K mg base N "law" (defScope st) f cdv A outer s H E) fa E sts g)
    (hg : ∀ ns : List Int, ns.length ≤ 63 → ∃ ρ' s', g (.no :: .d .feed :: List.replicate n .no) (fs1 ns) = .ok (.rt (.bl true), ρ') s') :
    FnOk P w K mg base CX0 (k + 1) f fd ["_law_script"] (spLaw K) := by
  refine fn_cx0 (x := "law") (qual := "law") (st := st) ?_ fun vs H Q E E' h => h
  refine F.okX S (fun vs H Q E h => ?_) fun cdv A outer s H vs Q E hr h => ?_
  · obtain ⟨a, ns, rfl, _⟩ := h
    rfl
  · obtain ⟨a, ns, rfl, hS, hl, q⟩ := h
    obtain ⟨t0, p0, k0⟩ := h0 cdv A outer s H E hr
    -- the whole heap is known
    have S0 := SOk.start (K := K) (fa := none) (F := H) (H := H) (s := fs1 ns) (N := N) (ds := [.scr ns]) (vs := [.ref a]) (Same.refl H) (fun φ e => nomatch e) (.cons (.scr hS) .nil) (by rw [hN]; simp)
    -- the rest's reading, for every feed
    have rest : ∀ (φ : FA), ∃ t, PSs (cxOf (L2.CX P w) P w K mg base N "law" (defScope st) f cdv A outer s H E) sts t ∧ SOkT (cxOf (L2.CX P w) P w K mg base N "law" (defScope st) f cdv A outer s H E) (some φ) E t g := fun φ => hbody cdv A outer s H E (some φ) hr
    -- one reading for all
    let tt : TS := fun Dn σ H => ∃ φ, (Classical.choose (rest φ)) Dn σ H
    have ptt : PSs (cxOf (L2.CX P w) P w K mg base N "law" (defScope st) f cdv A outer s H E) sts tt := ⟨fun pins s σ H D I ⟨φ, h⟩ => (Classical.choose_spec (rest φ)).1.run pins s σ H D I h⟩
    refine ⟨tSeq t0 tt, by rw [hst]; exact pss_cons p0 ptt, ?_⟩
    refine k0 H H H H H _ _ _ _ _ S0 ?_
    have e0 : gSet 1 (vMask (dCall ff (lCons (dVar 0) lNil))) ([.d (.scr ns)] ++ List.replicate (N.length - 1) .no) (fs1 ns) = .ok (.nx, .d (.scr ns) :: .d (.lst (feedL (fs1 ns))) :: List.replicate n .no) (fs1 ns) := by
      have e1 : ([EV.d (.scr ns)] ++ List.replicate (N.length - 1) EV.no) = .d (.scr ns) :: .no :: List.replicate n .no := by
        rw [hN]
        rfl
      rw [e1]
      show ((vMask (dCall ff (lCons (dVar 0) lNil)) (.d (.scr ns) :: .no :: List.replicate n .no)).bind _) (fs1 ns) = _
      have e2 : vMask (dCall ff (lCons (dVar 0) lNil)) (.d (.scr ns) :: .no :: List.replicate n .no) (fs1 ns) = .ok (.d (.lst (feedL (fs1 ns))), .d (.scr ns) :: .no :: List.replicate n .no) (fs1 ns) := by
        show ((ff [.scr ns] (fs1 ns)).bnd _) = _
        rw [hff ns _ hl]
        rfl
      show ((vMask (dCall ff (lCons (dVar 0) lNil)) (.d (.scr ns) :: .no :: List.replicate n .no) (fs1 ns)).bnd _) = _
      rw [e2]
      rfl
    show GoodS _ none E H H H (gSet 1 (vMask (dCall ff (lCons (dVar 0) lNil))) ([.d (.scr ns)] ++ List.replicate (N.length - 1) .no) (fs1 ns)) _
    rw [e0]
    intro σ' F' H' A' S'
    have sl := S'.slot 1 _ rfl
    obtain ⟨v, hv, r⟩ := sl
    cases r with
    | @lst p xs vs hp rl =>
      unfold feedL at rl
      cases rl with
      | cons a1 g5 =>
        cases g5 with
        | cons a2 g5 =>
          cases g5 with
          | cons a3 g5 =>
            cases g5 with
            | cons a4 g5 =>
              cases g5 with
              | cons a5 g5 =>
                cases g5
                cases a2
                cases a3
                cases a4
                cases a5
                cases a1 with
                | @lst c _ us hc rc =>
                  obtain rfl := RepL.of_ints rc
                  have hpc : c ≠ p := fun z => by
                    subst z
                    rw [hc] at hp
                    have e : ns.map V.int = _ := HO.lst.inj (Option.some.inj hp)
                    cases ns with
                    | nil => cases e
                    | cons x r => cases e
                  refine ⟨⟨p, c, ns⟩, (Classical.choose_spec (rest ⟨p, c, ns⟩)).2 (fun b => if b = p then none else F' b) (fun b => if b = p then none else F' b) H' (fun b => if b = p then none else F' b) H' (fun _ => 0) σ' (.no :: .d .feed :: List.replicate n .no) (fs1 ns) _ ⟨Ext.refl fun b o e => ?_, Same.refl _, fun φ e => ?_, ?_, fun i ev h => ?_, fun i j ev ev' h h' ho ho' => ?_⟩ ?_⟩
                  · by_cases hb : b = p
                    · rw [if_pos hb] at e; cases e
                    · rw [if_neg hb] at e; exact S'.ext.fh b o e
                  · cases e
                    exact ⟨if_pos rfl, ⟨rfl, (stir_ok ns).1, (stir_ok ns).2, Int.le_refl _, Int.le_refl _⟩, S'.ext.fh _ _ hp, by
                      show (if c = p then none else F' c) = _
                      rw [if_neg hpc]; exact hc⟩
                  · rw [S'.len]; rfl
                  · match i, h with
                    | 0, h => cases h; trivial
                    | 1, h => cases h; exact ⟨_, hv, .feed ⟨p, c, ns⟩ rfl⟩
                    | i + 2, h =>
                      simp only [List.getElem?_cons_succ] at h
                      rw [List.getElem?_replicate] at h
                      split at h
                      · cases h; trivial
                      · cases h
                  · have key : ∀ (m : Nat) u, (EV.no :: .d .feed :: List.replicate n EV.no)[m]? = some u → u.own = true → False := fun m u hm hu => by
                      match m, hm with
                      | 0, hm => cases hm; cases hu
                      | 1, hm => cases hm; cases hu
                      | m + 2, hm =>
                        simp only [List.getElem?_cons_succ] at hm
                        rw [List.getElem?_replicate] at hm
                        split at hm
                        · cases hm; cases hu
                        · cases hm
                    exact (key i ev h ho).elim
                  · obtain ⟨ρ', s', e⟩ := hg ns hl
                    rw [e]
                    intro v F2 H2 _ _ r2 _
                    cases r2
                    exact q H2
end
end DL

namespace DL
open PySem PySem.Spec PyProof.Rows L2
/-! ### a few more forms -/
def dNew (f : Env' → M (List D)) : Env' → M D := fun ρ => (f ρ).bind fun xs => M.pure (.lst xs)
def anyD' (x : D) : Option (List D) := match x with
  | .str z => some (z.cps.toList.map fun c => .str ⟨#[c]⟩)
  | x => seqD x
def iAny (f : Env' → M D) : Env' → M (List D) := fun ρ => (f ρ).bind fun x => M.lift (anyD' x)
section
variable {X : Cx} {fa : Option FA} {W : L2.St → XK} {Wc : XK} {tg a b c e o : Expr} {es rest : List Expr} {pos p apos cpos : Pos} {f1 f2 f3 : Env' → M D} {fl : Env' → M (List D)}
/-- a list, a tuple, a text -/
theorem ij_any (h : ED X fa W e f1) : IJ X fa W tg e (iAny f1) := by
  obtain ⟨wi, p1, k1⟩ := ij_seq (tg := tg) h
  obtain ⟨wi2, p2, k2⟩ := ij_text (tg := tg) h
  refine ⟨_, PI.or p1 p2, fun σ F H ρ s R h1 h2 h3 hg => ?_⟩
  change GoodI X fa (W σ) F H ((f1 ρ s).bnd _) R at hg
  cases q : f1 ρ s with
  | bad => rw [q] at hg; exact hg.elim
  | err x s' =>
    refine .inl (k1 σ F H ρ s R h1 h2 h3 ?_)
    show GoodI X fa (W σ) F H ((f1 ρ s).bnd _) R
    rw [q] at hg ⊢
    exact hg
  | ok x s' =>
    rw [q] at hg
    cases x with
    | str z =>
      refine .inr (k2 σ F H ρ s R h1 h2 h3 ?_)
      show GoodI X fa (W σ) F H ((f1 ρ s).bnd _) R
      rw [q]
      exact hg
    | _ =>
      refine .inl (k1 σ F H ρ s R h1 h2 h3 ?_)
      show GoodI X fa (W σ) F H ((f1 ρ s).bnd _) R
      rw [q]
      exact hg
def listN : List D → Option (List D)
  | [.lst xs] => some xs
  | [.tup xs] => some xs
  | _ => none
/-- list(x), new -/
theorem nd_list {x : Str} (hm : X.mg x = none) (ha : LD X fa W [e] fl) (hv : bootBuiltins x = some (.type "list") := by decide +kernel) (hg : Gl X x := by rfl) (hn : x ≠ "__name__" := by decide) (hdb : (x == ("__debug__" : Str)) = false := by decide) (he : starEach [e] X.env = (false, eval e X.env) :: starEach [] X.env := by rfl) (hpl : (backTo pos (starEach [] X.env)).any (·.1) = false := by rfl) :
    ND X fa W (.Call (.Name x p) [e] [] pos) (fun ρ => (fl ρ).bind fun xs => M.lift (listN xs)) := by
  obtain ⟨ta, pa, ka⟩ := ha
  refine ⟨_, pe_callTy call_list_of hg hm hv pa hn hdb he hpl, fun σ F H ρ s Q h1 h2 h3 h => ?_⟩
  refine ka.then GoodN.tgt h1 h2 h3 h fun xs s1 vs F1 H1 e1 o1 r1 v1 h' => ?_
  have part : ∀ (q : Addr) (us : List V) (ds : List D), (SqL X.K H1 q us ∨ SqT X.K H1 q us) → RepL X.K fa F1 ds us → vs = [.ref q] → GoodN X fa (W σ) F1 H1 (.ok ds s1) Q → ∃ p ys, vs = [.ref p] ∧ (SqL X.K H1 p ys ∨ SqT X.K H1 p ys) ∧ ∀ l, H1 l = none → Q (.ref l) (upd H1 l (.lst ys)) := fun q us ds hs rl hv hg => by
    refine ⟨q, us, hv, hs, fun l hl => ?_⟩
    have fl : F1 l = none := Same.free e1.fh hl
    refine hg l us F1 (upd H1 l (.lst us)) ⟨Same.refl _, fun b u z => ?_, fun b u z _ => ?_, fun _ _ => rfl, fun b z => ?_⟩ (o1.ext_same (Same.refl _) (fun b u z => by rw [upd_ne (ne_of_none z hl)]; exact z) fun _ _ => rfl) hl fl upd_same rl
    · rw [upd_ne (ne_of_none z fl)]; exact e1.fh b u z
    · rw [upd_ne (ne_of_none z hl)]; exact z
    · have : b ≠ l := fun q => z (q ▸ hl)
      rw [upd_ne this]; exact z
  cases r1 with
  | nil => exact h'.elim
  | cons r t =>
    cases t with
    | cons _ _ => cases r <;> exact h'.elim
    | nil =>
      cases r with
      | lst hq r => exact part _ _ _ (.inl (SqL.of (e1.fh _ _ hq))) r rfl h'
      | tup hq r => exact part _ _ _ (.inr (same_seqT e1.fh hq)) r rfl h'
      | _ => exact h'.elim
end
end DL

namespace DL
open PySem PySem.Spec PyProof.Rows L2
/-- a method of a value of one type -/
def dMtT (T : String) (g : D → List D → Option D) (f1 : Env' → M D) (fl : Env' → M (List D)) : Env' → M D := fun ρ => (f1 ρ).bind fun x => if tyD x = some T then (fl ρ).bind fun xs => M.lift (g x xs) else M.bad
theorem ht_index : ∀ d as, indexD d as ≠ none → tyD d = some "list" := by
  intro d as h
  cases d with
  | lst xs => rfl
  | _ => exact absurd rfl h
/-! ### the draw -/
def drawM (n : Int) : M Int := fun s =>
  if 0 < n ∧ n < 1073741824 then
    let s := { s with cnt := s.cnt + 1 }
    let s := if s.rest = 0 ∧ s.at_ < s.cells.length then
        match s.cells[s.at_.toNat]? with
        | some c => if 1000000000000000000 ≤ c then { s with at_ := s.at_ + 1, rest := c } else { s with at_ := s.at_ + 1, stir := (s.stir * 30203 + c % 2147483029 * 611 + 53) % 2147483477 }
        | none => s
      else s
    if 0 < s.rest then .ok (s.rest % n) { s with rest := s.rest / n }
    else
      let late := s.stir * s.stir + s.stir * 20011 + s.cnt * 1299721 + 40009
      let st := late % 2147483477
      .ok ((st / 97 + st % 6007 * 71) % n) { s with stir := st }
  else .bad
section
variable {g g' : DS → Option (Option Int × DS)} {d d' : DS} {k : Int} {c : Env' → M Bool}
theorem hSeq_nx (h : g d = some (none, d')) : hSeq g g' d = g' d' := by
  unfold hSeq; rw [h]; rfl
theorem hSeq_rt (h : g d = some (some k, d')) : hSeq g g' d = some (some k, d') := by
  unfold hSeq; rw [h]; rfl
theorem hIf_t (h : boolOf c d = some true) : hIf c g g' d = g d := by
  unfold hIf; rw [h]; rfl
theorem hIf_f (h : boolOf c d = some false) : hIf c g g' d = g' d := by
  unfold hIf; rw [h]; rfl
theorem hSet_eq {i : Nat} {f : Env' → M D} {n : Int} (h : numOf f d = some n) : hSet i f d = some (none, ⟨d.L, d.ρ.set i (some n)⟩) := by
  unfold hSet; rw [h]; rfl
theorem hStore_eq {f : Env' → M D} {n j : Int} {m : Nat} (h : numOf f d = some n) (hj : ixN d.L.length j = some m) : hStore f j d = some (none, ⟨d.L.set m (.int n), d.ρ⟩) := by
  unfold hStore; rw [h]; show (ixN d.L.length j).map _ = _; rw [hj]; rfl
theorem hRet_eq {f : Env' → M D} {n : Int} (h : numOf f d = some n) : hRet f d = some (some n, d) := by
  unfold hRet; rw [h]; rfl
end
end DL

set_option Elab.async false
set_option linter.all false
set_option maxRecDepth 100000
set_option maxHeartbeats 2000000
/-! The data layer: the draw. -/
namespace DL
open PySem PySem.Spec PyProof.Rows L2
def hD3 : DS → Option (Option Int × DS) :=
    (hSeq (hSet 3 (dOp ixD (dVar 0) (dC (.int 4))))
    (hSeq (hSet 3 (dOp addD (dOp addD (dOp addD (dOp mulD (dVar 4) (dVar 4)) (dOp mulD (dVar 4) (dC (.int 20011)))) (dOp mulD (dOp ixD (dVar 0) (dC (.int 3))) (dC (.int 1299721)))) (dC (.int 40009))))
    (hSeq (hStore (dOp modD (dFn intF (lCons (dVar 4) lNil)) (dC (.int 2147483477))) 4)
    (hRet (dOp modD (dFn intF (lCons (dOp addD (dOp fdivD (dOp ixD (dVar 0) (dC (.int 4))) (dC (.int 97))) (dOp mulD (dOp modD (dFn intF (lCons (dOp ixD (dVar 0) (dC (.int 4))) lNil)) (dC (.int 6007))) (dC (.int 71)))) lNil)) (dVar 1))))))
def hD2 : DS → Option (Option Int × DS) :=
    (hSeq (hIf (cCmp gtD (dOp ixD (dVar 0) (dC (.int 2))) (dC (.int 0))) (hSeq (hSet 2 (dOp modD (dFn intF (lCons (dOp ixD (dVar 0) (dC (.int 2))) lNil)) (dVar 1)))
    (hSeq (hStore (dOp fdivD (dOp ixD (dVar 0) (dC (.int 2))) (dVar 1)) 2)
    (hRet (dVar 3)))) hNext) hD3)
def hD1 : DS → Option (Option Int × DS) :=
    (hIf (cAnd (cCmp eqD (dOp ixD (dVar 0) (dC (.int 2))) (dC (.int 0))) (cCmp ltD (dOp ixD (dVar 0) (dC (.int 1))) (dFn lenD (lCons (dOp ixD (dVar 0) (dC (.int 0))) lNil)))) (hSeq (hSet 1 (dOp ixD (dOp ixD (dVar 0) (dC (.int 0))) (dOp ixD (dVar 0) (dC (.int 1)))))
    (hSeq (hStore (dOp addD (dOp ixD (dVar 0) (dC (.int 1))) (dC (.int 1))) 1)
    (hIf (cCmp geD (dVar 2) (dOp powD (dC (.int 10)) (dC (.int 18)))) (hStore (dVar 2) 2) (hStore (dOp modD (dFn intF (lCons (dOp addD (dOp addD (dOp mulD (dOp ixD (dVar 0) (dC (.int 4))) (dC (.int 30203))) (dOp mulD (dOp modD (dFn intF (lCons (dVar 2) lNil)) (dC (.int 2147483029))) (dC (.int 611)))) (dC (.int 53))) lNil)) (dC (.int 2147483477))) 4)))) hNext)
def hDraw : DS → Option (Option Int × DS) :=
  (hSeq (hStore (dOp addD (dOp ixD (dVar 0) (dC (.int 3))) (dC (.int 1))) 3) (hSeq hD1 hD2))
section
variable {d : DS} {f f1 f2 : Env' → M D} {a b r : Int} {g : D → D → Option D} {c1 c2 : Env' → M Bool} {k : Bool}
theorem num_op (h1 : numOf f1 d = some a) (h2 : numOf f2 d = some b) (hg : g (.int a) (.int b) = some (.int r)) : numOf (dOp g f1 f2) d = some r := by
  unfold numOf dOp
  show (match ((f1 d.env fs0).bnd _ : Res D) with | .ok (.int n) ⟨[], 0, 0, 0, 0⟩ => some n | _ => none) = _
  rw [numOf_eq h1]
  show (match ((f2 d.env fs0).bnd _ : Res D) with | .ok (.int n) ⟨[], 0, 0, 0, 0⟩ => some n | _ => none) = _
  rw [numOf_eq h2]
  show (match (M.lift (g (.int a) (.int b)) fs0 : Res D) with | .ok (.int n) ⟨[], 0, 0, 0, 0⟩ => some n | _ => none) = _
  rw [hg]
  rfl
theorem num_mod (h1 : numOf f1 d = some a) (h2 : numOf f2 d = some b) (h : 0 < b) : numOf (dOp modD f1 f2) d = some (a % b) := num_op h1 h2 (if_pos h)
theorem num_fdiv (h1 : numOf f1 d = some a) (h2 : numOf f2 d = some b) (h : 0 < b ∧ b < 1073741824) : numOf (dOp fdivD f1 f2) d = some (a / b) := num_op h1 h2 (if_pos h)
theorem num_mul (h1 : numOf f1 d = some a) (h2 : numOf f2 d = some b) (h : (-(2 ^ 64) < a ∧ a < 2 ^ 64) ∨ (-(2 ^ 64) < b ∧ b < 2 ^ 64)) : numOf (dOp mulD f1 f2) d = some (a * b) := num_op h1 h2 (if_pos h)
theorem num_add (h1 : numOf f1 d = some a) (h2 : numOf f2 d = some b) : numOf (dOp addD f1 f2) d = some (a + b) := num_op h1 h2 rfl
theorem num_int (h1 : numOf f d = some a) : numOf (dFn intF (lCons f lNil)) d = some a := by
  unfold numOf dFn
  show (match (((f d.env fs0).bnd _ : Res (List D)).bnd _ : Res D) with | .ok (.int n) ⟨[], 0, 0, 0, 0⟩ => some n | _ => none) = _
  rw [numOf_eq h1]
  rfl
theorem bool_cmp (h1 : numOf f1 d = some a) (h2 : numOf f2 d = some b) (hg : g (.int a) (.int b) = some (.bl k)) : boolOf (cCmp g f1 f2) d = some k := by
  unfold boolOf cCmp
  show (match ((f1 d.env fs0).bnd _ : Res Bool) with | .ok n ⟨[], 0, 0, 0, 0⟩ => some n | _ => none) = _
  rw [numOf_eq h1]
  show (match ((f2 d.env fs0).bnd _ : Res Bool) with | .ok n ⟨[], 0, 0, 0, 0⟩ => some n | _ => none) = _
  rw [numOf_eq h2]
  show (match (((M.lift (g (.int a) (.int b)) fs0).bnd _) : Res Bool) with | .ok n ⟨[], 0, 0, 0, 0⟩ => some n | _ => none) = _
  rw [hg]
  rfl
theorem bool_and (h1 : boolOf c1 d = some true) : boolOf (cAnd c1 c2) d = boolOf c2 d := by
  unfold cAnd
  show (match ((c1 d.env fs0).bnd _ : Res Bool) with | .ok n ⟨[], 0, 0, 0, 0⟩ => some n | _ => none) = _
  rw [boolOf_eq h1]
  rfl
theorem bool_and0 (h1 : boolOf c1 d = some false) : boolOf (cAnd c1 c2) d = some false := by
  unfold cAnd
  show (match ((c1 d.env fs0).bnd _ : Res Bool) with | .ok n ⟨[], 0, 0, 0, 0⟩ => some n | _ => none) = _
  rw [boolOf_eq h1]
  rfl
theorem eqD_int (a b : Int) : eqD (.int a) (.int b) = some (.bl (decide (a = b))) := by
  unfold eqD eqB
  show (if scal (.int a) (.int b) = true then some (decide ((V.int a) = .int b)) else _).map D.bl = _
  rw [if_pos (show scal (.int a) (.int b) = true from rfl)]
  show some (D.bl (decide (V.int a = V.int b))) = _
  congr 2
  by_cases h : a = b
  · subst h; simp
  · simp [h]
end
/-- what the tail of a draw gives -/
def drawT (n : Int) (s : FS) : Int × FS :=
  if 0 < s.rest then (s.rest % n, { s with rest := s.rest / n })
  else (((s.stir * s.stir + s.stir * 20011 + s.cnt * 1299721 + 40009) % 2147483477 / 97 + (s.stir * s.stir + s.stir * 20011 + s.cnt * 1299721 + 40009) % 2147483477 % 6007 * 71) % n, { s with stir := (s.stir * s.stir + s.stir * 20011 + s.cnt * 1299721 + 40009) % 2147483477 })
theorem hD3_runs (n : Int) (s : FS) (o : Option Int) (h : s.Ok) (hn : 0 < n) (hr : ¬ 0 < s.rest) : ∃ ρ', hD3 ⟨feedL s, [some n, o, none, none]⟩ = some (some (drawT n s).1, ⟨feedL (drawT n s).2, ρ'⟩) := by
  unfold hD3
  have hb : (-(2 ^ 64) < s.stir ∧ s.stir < 2 ^ 64) := by
    obtain ⟨h1, h2, _⟩ := h
    constructor <;> omega
  refine ⟨[some n, o, none, some (s.stir * s.stir + s.stir * 20011 + s.cnt * 1299721 + 40009)], ?_⟩
  rw [hSeq_nx (hSet_eq (n := s.stir) rfl)]
  rw [hSeq_nx (hSet_eq (n := s.stir * s.stir + s.stir * 20011 + s.cnt * 1299721 + 40009) (num_add (num_add (num_add (num_mul (a := s.stir) (b := s.stir) rfl rfl (.inl hb)) (num_mul (a := s.stir) (b := 20011) rfl rfl (.inl hb))) (num_mul (a := s.cnt) (b := 1299721) rfl rfl (.inr (by decide)))) rfl))]
  rw [hSeq_nx (hStore_eq (n := (s.stir * s.stir + s.stir * 20011 + s.cnt * 1299721 + 40009) % 2147483477) (m := 4) (num_mod (b := 2147483477) (num_int rfl) rfl (by decide)) rfl)]
  rw [hRet_eq (n := ((s.stir * s.stir + s.stir * 20011 + s.cnt * 1299721 + 40009) % 2147483477 / 97 + (s.stir * s.stir + s.stir * 20011 + s.cnt * 1299721 + 40009) % 2147483477 % 6007 * 71) % n) (num_mod (b := n) (num_int (num_add (num_fdiv (a := (s.stir * s.stir + s.stir * 20011 + s.cnt * 1299721 + 40009) % 2147483477) (b := 97) rfl rfl (by decide)) (num_mul (b := 71) (num_mod (b := 6007) (num_int (a := (s.stir * s.stir + s.stir * 20011 + s.cnt * 1299721 + 40009) % 2147483477) rfl) rfl (by decide)) rfl (.inr (by decide))))) rfl hn)]
  unfold drawT
  rw [if_neg hr]
  rfl
theorem hD2_runs (n : Int) (s : FS) (o : Option Int) (h : s.Ok) (hn : 0 < n) (hn2 : n < 1073741824) : ∃ ρ', hD2 ⟨feedL s, [some n, o, none, none]⟩ = some (some (drawT n s).1, ⟨feedL (drawT n s).2, ρ'⟩) := by
  unfold hD2
  by_cases hr : 0 < s.rest
  · refine ⟨[some n, o, some (s.rest % n), none], ?_⟩
    refine hSeq_rt ?_
    rw [hIf_t (bool_cmp (a := s.rest) (b := 0) rfl rfl (show some (D.bl (decide ((0:Int) < s.rest))) = _ by simp [hr]))]
    rw [hSeq_nx (hSet_eq (n := s.rest % n) (num_mod (a := s.rest) (b := n) (num_int rfl) rfl hn))]
    rw [hSeq_nx (hStore_eq (n := s.rest / n) (m := 2) (num_fdiv (a := s.rest) (b := n) rfl rfl ⟨hn, hn2⟩) rfl)]
    rw [hRet_eq (n := s.rest % n) rfl]
    unfold drawT
    rw [if_pos hr]
    rfl
  · obtain ⟨ρ', e⟩ := hD3_runs n s o h hn hr
    refine ⟨ρ', ?_⟩
    rw [hSeq_nx (d' := ⟨feedL s, [some n, o, none, none]⟩), e]
    rw [hIf_f (bool_cmp (a := s.rest) (b := 0) rfl rfl (show some (D.bl (decide ((0:Int) < s.rest))) = _ by simp [hr]))]
    rfl
def drawH (s : FS) : FS :=
  if s.rest = 0 ∧ s.at_ < s.cells.length then
        match s.cells[s.at_.toNat]? with
        | some c => if 1000000000000000000 ≤ c then { s with at_ := s.at_ + 1, rest := c } else { s with at_ := s.at_ + 1, stir := (s.stir * 30203 + c % 2147483029 * 611 + 53) % 2147483477 }
        | none => s
      else s
theorem drawM_eq (n : Int) (s : FS) (hn : 0 < n) (hn2 : n < 1073741824) : drawM n s = .ok (drawT n (drawH { s with cnt := s.cnt + 1 })).1 (drawT n (drawH { s with cnt := s.cnt + 1 })).2 := by
  show (if 0 < n ∧ n < 1073741824 then (if 0 < (drawH { s with cnt := s.cnt + 1 }).rest then _ else _) else _) = _
  rw [if_pos ⟨hn, hn2⟩]
  unfold drawT
  by_cases h : 0 < (drawH { s with cnt := s.cnt + 1 }).rest
  · rw [if_pos h, if_pos h]; rfl
  · rw [if_neg h, if_neg h]; rfl
theorem drawH_ok (s : FS) (h : s.Ok) : (drawH s).Ok ∧ (drawH s).cells = s.cells := by
  obtain ⟨h1, h2, h3, h4⟩ := h
  unfold drawH
  split
  · split
    · split
      · rename_i c _ h5
        exact ⟨⟨h1, h2, by show 0 ≤ s.at_ + 1; omega, by show 0 ≤ c; omega⟩, rfl⟩
      · exact ⟨⟨Int.emod_nonneg _ (by decide), Int.emod_lt_of_pos _ (by decide), by show 0 ≤ s.at_ + 1; omega, h4⟩, rfl⟩
    · exact ⟨⟨h1, h2, h3, h4⟩, rfl⟩
  · exact ⟨⟨h1, h2, h3, h4⟩, rfl⟩
theorem drawT_ok (n : Int) (s : FS) (hn : 0 < n) (h : s.Ok) : (drawT n s).2.Ok ∧ (drawT n s).2.cells = s.cells ∧ 0 ≤ (drawT n s).1 ∧ (drawT n s).1 < n := by
  obtain ⟨h1, h2, h3, h4⟩ := h
  unfold drawT
  split
  · exact ⟨⟨h1, h2, h3, Int.ediv_nonneg h4 (Int.le_of_lt hn)⟩, rfl, Int.emod_nonneg _ (by omega), Int.emod_lt_of_pos _ hn⟩
  · exact ⟨⟨Int.emod_nonneg _ (by decide), Int.emod_lt_of_pos _ (by decide), h3, h4⟩, rfl, Int.emod_nonneg _ (by omega), Int.emod_lt_of_pos _ hn⟩
theorem hD1_runs (n : Int) (s : FS) (h : s.Ok) : ∃ o, hD1 ⟨feedL s, [some n, none, none, none]⟩ = some (none, ⟨feedL (drawH s), [some n, o, none, none]⟩) := by
  unfold hD1 drawH
  obtain ⟨h1, h2, h3, h4⟩ := h
  have lt : numOf (dFn lenD (lCons (dOp ixD (dVar 0) (dC (.int 0))) lNil)) ⟨feedL s, [some n, none, none, none]⟩ = some s.cells.length := by
    show some ((List.length (s.cells.map D.int) : Nat) : Int) = _
    exact congrArg (fun m : Nat => some (m : Int)) (List.length_map ..)
  by_cases hr : s.rest = 0
  · have b1 : boolOf (cCmp eqD (dOp ixD (dVar 0) (dC (.int 2))) (dC (.int 0))) ⟨feedL s, [some n, none, none, none]⟩ = some true := bool_cmp (a := s.rest) (b := 0) rfl rfl (by rw [eqD_int]; simp [hr])
    by_cases ha : s.at_ < s.cells.length
    · have b2 : boolOf (cCmp ltD (dOp ixD (dVar 0) (dC (.int 1))) (dFn lenD (lCons (dOp ixD (dVar 0) (dC (.int 0))) lNil))) ⟨feedL s, [some n, none, none, none]⟩ = some true := bool_cmp (a := s.at_) rfl lt (show some (D.bl (decide _)) = _ by simp [ha])
      obtain ⟨c, hc⟩ : ∃ c, s.cells[s.at_.toNat]? = some c := ⟨_, List.getElem?_eq_getElem (by omega)⟩
      have hix : ixD (.lst (s.cells.map D.int)) (.int s.at_) = some (.int c) := by
        show atI (s.cells.map D.int) s.at_ = _
        unfold atI ixN
        rw [if_pos h3, if_pos (by rw [List.length_map]; exact ha)]
        show (s.cells.map D.int)[s.at_.toNat]? = _
        rw [List.getElem?_map, hc]
        rfl
      have nc : numOf (dOp ixD (dOp ixD (dVar 0) (dC (.int 0))) (dOp ixD (dVar 0) (dC (.int 1)))) ⟨feedL s, [some n, none, none, none]⟩ = some c := by
        show (match (M.lift (ixD (.lst (s.cells.map D.int)) (.int s.at_)) fs0 : Res D) with | .ok (.int n) ⟨[], 0, 0, 0, 0⟩ => some n | _ => none) = _
        rw [hix]
        rfl
      rw [if_pos ⟨hr, ha⟩, hc]
      refine ⟨some c, ?_⟩
      rw [hIf_t ((bool_and b1).trans b2), hSeq_nx (hSet_eq nc), hSeq_nx (hStore_eq (n := s.at_ + 1) (m := 1) rfl rfl)]
      show hIf _ _ _ _ = some (none, ⟨feedL (if _ then _ else _), _⟩)
      by_cases h18 : 1000000000000000000 ≤ c
      · rw [if_pos h18, hIf_t (bool_cmp (a := c) (b := 1000000000000000000) rfl rfl (show some (D.bl (decide _)) = _ by simp [h18])), hStore_eq (n := c) (m := 2) rfl rfl]
        rfl
      · rw [if_neg h18, hIf_f (bool_cmp (a := c) (b := 1000000000000000000) rfl rfl (show some (D.bl (decide _)) = _ by simp [h18]))]
        have e1 : numOf (dOp modD (dFn intF (lCons (dOp addD (dOp addD (dOp mulD (dOp ixD (dVar 0) (dC (.int 4))) (dC (.int 30203))) (dOp mulD (dOp modD (dFn intF (lCons (dVar 2) lNil)) (dC (.int 2147483029))) (dC (.int 611)))) (dC (.int 53))) lNil)) (dC (.int 2147483477))) (⟨[.lst (s.cells.map D.int), .int (s.at_ + 1), .int s.rest, .int s.cnt, .int s.stir], [some n, some c, none, none]⟩) = some ((s.stir * 30203 + c % 2147483029 * 611 + 53) % 2147483477) :=
          num_mod (b := 2147483477) (num_int (num_add (num_add (num_mul (a := s.stir) (b := 30203) rfl rfl (.inr (by decide))) (num_mul (b := 611) (num_mod (b := 2147483029) (num_int (a := c) rfl) rfl (by decide)) rfl (.inr (by decide)))) rfl)) rfl (by decide)
        exact hStore_eq e1 (m := 4) rfl
    · have b2 : boolOf (cCmp ltD (dOp ixD (dVar 0) (dC (.int 1))) (dFn lenD (lCons (dOp ixD (dVar 0) (dC (.int 0))) lNil))) ⟨feedL s, [some n, none, none, none]⟩ = some false := bool_cmp (a := s.at_) rfl lt (show some (D.bl (decide _)) = _ by simp [ha])
      rw [if_neg fun z => ha z.2]
      refine ⟨none, ?_⟩
      rw [hIf_f ((bool_and b1).trans b2)]
      rfl
  · have b1 : boolOf (cCmp eqD (dOp ixD (dVar 0) (dC (.int 2))) (dC (.int 0))) ⟨feedL s, [some n, none, none, none]⟩ = some false := bool_cmp (a := s.rest) (b := 0) rfl rfl (by rw [eqD_int]; simp [hr])
    rw [if_neg fun z => hr z.1]
    refine ⟨none, ?_⟩
    rw [hIf_f (bool_and0 b1)]
    rfl
theorem hDraw_runs (i : Int) (s s' : FS) (k : Int) (h : s.Ok) (e : drawM i s = .ok k s') : s'.Ok ∧ s'.cells = s.cells ∧ ∃ ρ', hDraw ⟨feedL s, some i :: List.replicate 3 none⟩ = some (some k, ⟨feedL s', ρ'⟩) := by
  by_cases hi : 0 < i ∧ i < 1073741824
  · rw [drawM_eq i s hi.1 hi.2] at e
    have h0 : ({ s with cnt := s.cnt + 1 } : FS).Ok := h
    obtain ⟨k1, k2⟩ := drawH_ok _ h0
    obtain ⟨k3, k4, _, _⟩ := drawT_ok i _ hi.1 k1
    injection e with e1 e2
    subst e1 e2
    refine ⟨k3, k4.trans k2, ?_⟩
    obtain ⟨o, p1⟩ := hD1_runs i _ h0
    obtain ⟨ρ', p2⟩ := hD2_runs i _ o k1 hi.1 hi.2
    refine ⟨ρ', ?_⟩
    unfold hDraw
    rw [hSeq_nx (hStore_eq (n := s.cnt + 1) (m := 3) rfl rfl)]
    exact (hSeq_nx p1).trans p2
  · have : drawM i s = .bad := if_neg hi
    rw [this] at e
    cases e
/-- a draw gives a number -/
theorem drawM_some {n : Int} (hn : 0 < n) (hn2 : n < 1073741824) (s : FS) (h : s.Ok) : ∃ k s', drawM n s = .ok k s' ∧ s'.Ok ∧ s'.cells = s.cells ∧ 0 ≤ k ∧ k < n := by
  have h0 : ({ s with cnt := s.cnt + 1 } : FS).Ok := h
  obtain ⟨k1, k2⟩ := drawH_ok _ h0
  obtain ⟨k3, k4, k5, k6⟩ := drawT_ok n _ hn k1
  exact ⟨_, _, drawM_eq n s hn hn2, k3, k4.trans k2, k5, k6⟩
end DL

set_option Elab.async false
set_option linter.all false
set_option maxRecDepth 100000
set_option maxHeartbeats 2000000
/-! The data layer: how what a text computes is told, step by step. -/
namespace DL
open PySem PySem.Spec PyProof.Rows L2
/-- m ends well, with Q -/
structure Rm {α : Type} (m : M α) (s : FS) (Q : α → FS → Prop) : Prop where
  ends : match m s with
  | .ok a s' => Q a s'
  | _ => False
def seqK (g : Sts → M (Fl × Sts)) (p : Fl × Sts) : M (Fl × Sts) := match p.1 with
  | .nx => g p.2
  | _ => M.pure p
def runK (p : Fl × Sts) : M D := match p.1 with
    | .nx => M.pure .non
    | .rt d => M.pure d
    | _ => M.bad
namespace Rm
section
variable {α β : Type} {m : M α} {s s' : FS} {Q R : α → FS → Prop} {a : α} {o : Option α}
theorem eq (h : m s = .ok a s') (q : Q a s') : Rm m s Q := ⟨by rw [h]; exact q⟩
theorem out (h : Rm m s Q) : ∃ a s', m s = .ok a s' ∧ Q a s' := by
  obtain ⟨h⟩ := h
  split at h
  · exact ⟨_, _, by assumption, h⟩
  · exact h.elim
theorem mono (h : Rm m s Q) (k : ∀ a s', Q a s' → R a s') : Rm m s R := by
  obtain ⟨a, s', e, q⟩ := h.out
  exact eq e (k a s' q)
theorem det (h : Rm m s fun b s' => b = a ∧ s' = s) : m s = .ok a s := by
  obtain ⟨b, s', e, rfl, rfl⟩ := h.out
  exact e
theorem bind {f : α → M β} {Q : β → FS → Prop} (h : Rm m s fun a s' => Rm (f a) s' Q) : Rm (M.bind m f) s Q := by
  obtain ⟨a, s', e, q⟩ := h.out
  obtain ⟨b, s2, e2, q2⟩ := q.out
  refine eq (a := b) (s' := s2) ?_ q2
  unfold M.bind
  rw [e]
  exact e2
theorem bindP {f : α → β} {Q : β → FS → Prop} (h : Rm m s fun a s' => Q (f a) s') : Rm (M.bind m fun a => M.pure (f a)) s Q := bind (h.mono fun _ _ h => ⟨h⟩)
theorem pure (h : Q a s) : Rm (M.pure a) s Q := ⟨h⟩
theorem lift (e : o = some a) (h : Q a s) : Rm (M.lift o) s Q := by subst e; exact ⟨h⟩
theorem lift2 (h : ∃ a, o = some a ∧ Q a s) : Rm (M.lift o) s Q := by
  obtain ⟨a, e, h⟩ := h
  exact lift e h
theorem quiet (h : Rm m s Q) : Rm (M.quiet m) s Q := by
  obtain ⟨a, s', e, q⟩ := h.out
  refine eq (a := a) (s' := s') ?_ q
  unfold M.quiet
  rw [e]
theorem iteT {x y : M α} (h : Rm x s Q) : Rm (if true = true then x else y) s Q := h
theorem iteF {x y : M α} (h : Rm y s Q) : Rm (if false = true then x else y) s Q := h
theorem ifT {x y : M α} {k : Bool} (e : k = true) (h : Rm x s Q) : Rm (if k = true then x else y) s Q := by
  subst e; exact h
theorem ifF {x y : M α} {k : Bool} (e : k = false) (h : Rm y s Q) : Rm (if k = true then x else y) s Q := by
  subst e; exact h
theorem ite {x y : M α} {c : Bool} (h : c = true → Rm x s Q) (h2 : c = false → Rm y s Q) : Rm (if c = true then x else y) s Q := by
  cases c with
  | true => exact h rfl
  | false => exact h2 rfl
end
section
variable {ρ : Env'} {s : FS} {f f1 f2 f3 : Env' → M D} {fl : Env' → M (List D)} {g : D → D → Option D} {Q : D → FS → Prop} {QL : List D → FS → Prop} {QB : Bool → FS → Prop} {i : Nat} {d : D} {c c1 c2 : Env' → M Bool}
theorem var (h : Rm (M.lift (ρ[i]?.join)) s Q) : Rm (dVar i ρ) s Q := h
theorem con (h : Q d s) : Rm (dC d ρ) s Q := ⟨h⟩
theorem op (h : Rm (f1 ρ) s fun x s => Rm (f2 ρ) s fun y s => Rm (M.lift (g x y)) s Q) : Rm (dOp g f1 f2 ρ) s Q := bind (h.mono fun _ _ h => bind h)
theorem un {g : D → Option D} (h : Rm (f1 ρ) s fun x s => Rm (M.lift (g x)) s Q) : Rm (dUn g f1 ρ) s Q := bind h
theorem lnil (h : QL [] s) : Rm (lNil ρ) s QL := ⟨h⟩
theorem lcons (h : Rm (f1 ρ) s fun x s => Rm (fl ρ) s fun xs s => QL (x :: xs) s) : Rm (lCons f1 fl ρ) s QL := bind (h.mono fun _ _ h => bindP h)
theorem fn {g : List D → Option D} (h : Rm (fl ρ) s fun xs s => Rm (M.lift (g xs)) s Q) : Rm (dFn g fl ρ) s Q := bind h
theorem call {g : List D → M D} (h : Rm (fl ρ) s fun xs s => Rm (g xs) s Q) : Rm (dCall g fl ρ) s Q := bind h
theorem mt {g : D → List D → Option D} (h : Rm (f1 ρ) s fun x s => Rm (fl ρ) s fun xs s => Rm (M.lift (g x xs)) s Q) : Rm (dMt g f1 fl ρ) s Q := bind (h.mono fun _ _ h => bind h)
theorem mtT {T : String} {g : D → List D → Option D} (h : Rm (f1 ρ) s fun x s => tyD x = some T ∧ Rm (fl ρ) s fun xs s => Rm (M.lift (g x xs)) s Q) : Rm (dMtT T g f1 fl ρ) s Q := bind (h.mono fun x s ⟨h1, h2⟩ => by
  rw [if_pos h1]
  exact bind h2)
theorem dif (h : Rm (c ρ) s fun k s => Rm (if k = true then f1 ρ else f2 ρ) s Q) : Rm (dIf c f1 f2 ρ) s Q := bind h
theorem dand (h : Rm (f1 ρ) s fun x s => Rm (M.lift (truthD x)) s fun k s => Rm (if k = true then f2 ρ else M.pure x) s Q) : Rm (dAnd f1 f2 ρ) s Q := bind (h.mono fun _ _ h => bind h)
theorem dor (h : Rm (f1 ρ) s fun x s => Rm (M.lift (truthD x)) s fun k s => Rm (if k = true then M.pure x else f2 ρ) s Q) : Rm (dOr f1 f2 ρ) s Q := bind (h.mono fun _ _ h => bind h)
theorem dnot (h : Rm (f1 ρ) s fun x s => Rm (M.lift (truthD x)) s fun k s => Q (.bl (!k)) s) : Rm (dNot f1 ρ) s Q := bind (h.mono fun _ _ h => bindP h)
theorem tru (h : Rm (f1 ρ) s fun x s => Rm (M.lift (truthD x)) s QB) : Rm (cTru f1 ρ) s QB := bind h
theorem cmp (h : Rm (f1 ρ) s fun x s => Rm (f2 ρ) s fun y s => Rm (M.lift (g x y)) s fun z s => Rm (M.lift (blD z)) s QB) : Rm (cCmp g f1 f2 ρ) s QB := bind (h.mono fun _ _ h => bind (h.mono fun _ _ h => bind h))
theorem cnot (h : Rm (c ρ) s fun k s => QB (!k) s) : Rm (cNot c ρ) s QB := bindP h
theorem cand (h : Rm (c1 ρ) s fun k s => Rm (if k = true then c2 ρ else M.pure false) s QB) : Rm (cAnd c1 c2 ρ) s QB := bind h
theorem cor (h : Rm (c1 ρ) s fun k s => Rm (if k = true then M.pure true else c2 ρ) s QB) : Rm (cOr c1 c2 ρ) s QB := bind h
theorem cyes (h : QB true s) : Rm (cYes ρ) s QB := ⟨h⟩
theorem isi {ts : List String} (h : Rm (f ρ) s fun x s => Rm (M.lift ((tyD x).bind fun t => (kitAnyB t ts).map D.bl)) s Q) : Rm (dIsi ts f ρ) s Q := bind h
def get2K (f2 f3 : Env' → M D) (ρ : Env') : D → M D
  | .dic kvs => (f2 ρ).bind fun k => (f3 ρ).bind fun z => M.lift ((keyD k).map fun k => (lookD kvs k).getD z)
  | _ => M.bad
theorem get2 (h : Rm (f1 ρ) s fun x s => Rm (get2K f2 f3 ρ x) s Q) : Rm (dGet2 f1 f2 f3 ρ) s Q := bind (h.mono fun x s h => by
  cases x <;> exact h)
theorem get2k {kvs : List (Key × D)} (h : Rm (f2 ρ) s fun k s => Rm (f3 ρ) s fun z s => Rm (M.lift ((keyD k).map fun k => (lookD kvs k).getD z)) s Q) : Rm (get2K f2 f3 ρ (.dic kvs)) s Q := bind (h.mono fun _ _ h => bind h)
theorem dnew (h : Rm (fl ρ) s fun xs s => Q (.lst xs) s) : Rm (dNew fl ρ) s Q := bindP h
theorem sl {lo hi : Env' → M (Option Int)} (h : Rm (f ρ) s fun x s => Rm (lo ρ) s fun l s => Rm (hi ρ) s fun u s => Rm (M.lift (slD x l u)) s Q) : Rm (dSl f lo hi ρ) s Q := bind (h.mono fun _ _ h => bind (h.mono fun _ _ h => bind h))
theorem ono {Q : Option Int → FS → Prop} (h : Q none s) : Rm (oNo ρ) s Q := ⟨h⟩
theorem osome {Q : Option Int → FS → Prop} (h : Rm (f ρ) s fun x s => Rm (M.lift (intD x)) s Q) : Rm (oSome f ρ) s Q := bind h
theorem iany (h : Rm (f ρ) s fun x s => Rm (M.lift (anyD' x)) s QL) : Rm (iAny f ρ) s QL := bind h
theorem ifn {g : List D → Option (List D)} (h : Rm (fl ρ) s fun x s => Rm (M.lift (g x)) s QL) : Rm (iFn g fl ρ) s QL := bind h
theorem lc {it : Env' → M (List D)} {b : D → Option Asg} (h : Rm (it ρ) s fun xs s => xs.length ≤ sizeLine ∧ Rm (lcE b c f xs ρ) s QL) : Rm (dLc it b c f ρ) s QL := bind (h.mono fun xs s ⟨h1, h2⟩ => by
  rw [if_pos h1]
  exact h2.quiet)
end
section
variable {ρ : Sts} {s : FS} {f : Env' → M D} {fv fv2 : Sts → M (EV × Sts)} {fl : Sts → M (List D × Sts)} {g g' : Sts → M (Fl × Sts)} {Q : Fl × Sts → FS → Prop} {QV : EV × Sts → FS → Prop} {QL : List D × Sts → FS → Prop} {i j : Nat} {d : D} {c : Env' → M Bool} {x : D}
theorem seq (h : Rm (g ρ) s fun p s => Rm (seqK g' p) s Q) : Rm (gSeq g g' ρ) s Q := bind h
theorem seq1 {ρ' : Sts} (h1 : Rm (g ρ) s fun p s' => p = (.nx, ρ') ∧ s' = s) (h2 : Rm (g' ρ') s Q) : Rm (gSeq g g' ρ) s Q := seq (h1.mono fun p s' h => by
  obtain ⟨rfl, rfl⟩ := h
  exact h2)
theorem seqNx (h : Rm (g ρ) s Q) : Rm (seqK g (.nx, ρ)) s Q := h
theorem seqRt (h : Q (.rt d, ρ) s) : Rm (seqK g (.rt d, ρ)) s Q := ⟨h⟩
theorem seqCt (h : Q (.ct, ρ) s) : Rm (seqK g (.ct, ρ)) s Q := ⟨h⟩
theorem seqBk (h : Q (.bk, ρ) s) : Rm (seqK g (.bk, ρ)) s Q := ⟨h⟩
theorem next (h : Q (.nx, ρ) s) : Rm (gNext ρ) s Q := ⟨h⟩
theorem set (h : Rm (fv ρ) s fun p s => Q (.nx, p.2.set i p.1) s) : Rm (gSet i fv ρ) s Q := bindP h
theorem drop (h : Rm (fv ρ) s fun p s => Q (.nx, p.2) s) : Rm (gDrop fv ρ) s Q := bindP h
theorem cond (h : Rm (c (view ρ)) s fun k s => Rm (if k = true then g ρ else g' ρ) s Q) : Rm (gIf c g g' ρ) s Q := bind h
theorem ret (h : Rm (f (view ρ)) s fun x s => Q (.rt x, ρ) s) : Rm (gRet f ρ) s Q := bindP h
theorem retN (h : Q (.rt .non, ρ) s) : Rm (gRetN ρ) s Q := ⟨h⟩
theorem brk (h : Q (.bk, ρ) s) : Rm (gBreak ρ) s Q := ⟨h⟩
theorem cont (h : Q (.ct, ρ) s) : Rm (gCont ρ) s Q := ⟨h⟩
theorem frz (h : Rm (g (DL.frz i ρ)) s Q) : Rm (gFrz i g ρ) s Q := h
theorem vmask (h : Rm (f (mask ρ)) s fun x s => QV (.d x, ρ) s) : Rm (vMask f ρ) s QV := bindP h
theorem vview (h : Rm (f (view ρ)) s fun x s => Rm (M.lift (scalD x)) s fun x s => QV (.d x, ρ) s) : Rm (vView f ρ) s QV := bind (h.mono fun _ _ h => bindP h)
theorem vnew {f : Env' → M (List D)} (h : Rm (f (mask ρ)) s fun x s => QV (.ol x, ρ) s) : Rm (vNew f ρ) s QV := bindP h
theorem vnewD (h : QV (.od [], ρ) s) : Rm (vNewD ρ) s QV := ⟨h⟩
theorem lvnil (h : QL ([], ρ) s) : Rm (lvNil ρ) s QL := ⟨h⟩
def lvK (fl : Sts → M (List D × Sts)) (p : EV × Sts) : M (List D × Sts) := match p.1 with
  | .d x => (fl p.2).bind fun q => M.pure (x :: q.1, q.2)
  | _ => M.bad
theorem lvcons (h : Rm (fv ρ) s fun p s => Rm (lvK fl p) s QL) : Rm (lvCons fv fl ρ) s QL := bind h
theorem lvk (h : Rm (fl ρ) s fun q s => QL (x :: q.1, q.2) s) : Rm (lvK fl (.d x, ρ)) s QL := bindP h
def mtK (i : Nat) (mo : List D → List D → Option (D × List D)) (q : List D × Sts) : M (EV × Sts) := match q.2[i]? with
    | some (.ol xs) => (M.lift (mo xs q.1)).bind fun z => M.pure (.d z.1, q.2.set i (.ol z.2))
    | _ => M.bad
theorem vmt {mo : List D → List D → Option (D × List D)} {xs : List D} (e : ρ[i]? = some (.ol xs)) (h : Rm (fl ρ) s fun q s => Rm (mtK i mo q) s QV) : Rm (vMt i mo fl ρ) s QV := by
  unfold vMt
  rw [e]
  exact bind h
theorem mtk {mo : List D → List D → Option (D × List D)} {xs as : List D} (e : ρ[i]? = some (.ol xs)) (h : Rm (M.lift (mo xs as)) s fun z s => QV (.d z.1, ρ.set i (.ol z.2)) s) : Rm (mtK i mo (as, ρ)) s QV := by
  unfold mtK
  dsimp only
  rw [e]
  exact bindP h
def asgK (b : D → Option Asg) (p : EV × Sts) : M (Fl × Sts) := match p.1 with
  | .d x => (M.lift (b x)).bind fun as => M.pure (.nx, setS as p.2)
  | _ => M.bad
theorem asgT {b : D → Option Asg} (h : Rm (fv ρ) s fun p s => Rm (asgK b p) s Q) : Rm (gAsgT b fv ρ) s Q := bind h
theorem asgk {b : D → Option Asg} (h : Rm (M.lift (b x)) s fun as s => Q (.nx, setS as ρ) s) : Rm (asgK b (.d x, ρ)) s Q := bindP h
theorem par (hl : i < ρ.length ∧ j < ρ.length) (h : Rm (fv ρ) s fun p s => Rm (fv2 p.2) s fun q s => Q (.nx, (q.2.set i p.1).set j q.1) s) : Rm (gPar i j fv fv2 ρ) s Q := by
  unfold gPar
  rw [if_pos hl]
  exact bind (h.mono fun _ _ h => bindP h)
theorem for_ {it : Env' → M (List D)} {b : D → Option Asg} (h : Rm (it (mask ρ)) s fun xs s => Rm (forS b g xs ρ) s Q) : Rm (gFor it b g ρ) s Q := bind h
def stdK (i : Nat) (fk : Sts → M (EV × Sts)) (p : EV × Sts) : M (Fl × Sts) := match p.2[i]? with
  | some (.od _) => (fk p.2).bind fun q => match p.1, q.1, q.2[i]? with
    | .d y, .d kk, some (.od xs) => (M.lift (keyD kk)).bind fun k => if xs.length < sizeLine then M.pure (.nx, q.2.set i (.od (putD xs k y))) else M.bad
    | _, _, _ => M.bad
  | _ => M.bad
theorem stD (h : Rm (fv ρ) s fun p s => Rm (stdK i fv2 p) s Q) : Rm (gStD i fv fv2 ρ) s Q := bind h
def stdK2 (i : Nat) (y : D) (q : EV × Sts) : M (Fl × Sts) := match q.1, q.2[i]? with
    | .d kk, some (.od xs) => (M.lift (keyD kk)).bind fun k => if xs.length < sizeLine then M.pure (.nx, q.2.set i (.od (putD xs k y))) else M.bad
    | _, _ => M.bad
theorem stdk {xs : List (Key × D)} (e : ρ[i]? = some (.od xs)) (h : Rm (fv2 ρ) s fun q s => Rm (stdK2 i x q) s Q) : Rm (stdK i fv2 (.d x, ρ)) s Q := by
  unfold stdK
  dsimp only
  rw [e]
  refine bind (h.mono fun q s' h => ?_)
  obtain ⟨a, ρ'⟩ := q
  unfold stdK2 at h
  dsimp only at h ⊢
  split at h
  · rename_i h1
    rw [h1]
    exact h
  · obtain ⟨a, s2, e, _⟩ := h.out
    cases e
theorem stdk2 {xs : List (Key × D)} {kk : D} (e : ρ[i]? = some (.od xs)) (hl : xs.length < sizeLine) (h : Rm (M.lift (keyD kk)) s fun k s => Q (.nx, ρ.set i (.od (putD xs k x))) s) : Rm (stdK2 i x (.d kk, ρ)) s Q := by
  unfold stdK2
  dsimp only
  rw [e]
  refine bind (h.mono fun q s' h => ?_)
  rw [if_pos hl]
  exact ⟨h⟩
/-- a loop, with what holds ahead of each pass -/
theorem loop {b : D → Option Asg} {xs : List D} (I : List D → Sts → FS → Prop) (h0 : I xs ρ s)
    (h1 : ∀ x r ρ s, I (x :: r) ρ s → ∃ as, b x = some as ∧ Rm (g (setS as ρ)) s fun p s => match p.1 with
      | .nx => I r p.2 s
      | .ct => I r p.2 s
      | .bk => Q (.nx, p.2) s
      | .rt d => Q (.rt d, p.2) s)
    (h2 : ∀ ρ s, I [] ρ s → Q (.nx, ρ) s) : Rm (forS b g xs ρ) s Q := by
  induction xs generalizing ρ s with
  | nil => exact ⟨h2 _ _ h0⟩
  | cons x r ih =>
    obtain ⟨as, e, h⟩ := h1 _ _ _ _ h0
    show Rm (M.bind (M.lift (b x)) _) s Q
    rw [e]
    refine bind (lift rfl (bind (h.mono fun p s' h => ?_)))
    obtain ⟨k, ρ'⟩ := p
    cases k with
    | nx => exact ih h
    | ct => exact ih h
    | bk => exact ⟨h⟩
    | rt d => exact ⟨h⟩
end
section
variable {ρ : Env'} {s : FS} {b : D → Option Asg} {f : Env' → M D} {c : Env' → M Bool} {xs : List D} {Q : List D → FS → Prop}
/-- a comprehension with no test -/
theorem lcY (I : FS → Prop) (P : D → D → Prop) (h0 : I s) (h1 : ∀ x s, x ∈ xs → I s → ∃ as, b x = some as ∧ Rm (f (setE as ρ)) s fun y s => P x y ∧ I s)
    (h2 : ∀ (ys : List D) (s : FS), ys.length = xs.length → (∀ (i : Nat) (x y : D), xs[i]? = some x → ys[i]? = some y → P x y) → I s → Q ys s) : Rm (lcE b cYes f xs ρ) s Q := by
  induction xs generalizing s Q with
  | nil => exact ⟨h2 _ _ rfl (fun i x y h => by simp at h) h0⟩
  | cons x r ih =>
    obtain ⟨as, e, h⟩ := h1 x s List.mem_cons_self h0
    show Rm (M.bind (M.lift (b x)) _) s Q
    rw [e]
    refine bind (lift rfl (bind ?_))
    refine cyes ?_
    rw [if_pos rfl]
    refine bind (h.mono fun y s' h => bind ?_)
    refine ih h.2 (fun x s hx => h1 x s (List.mem_cons_of_mem _ hx)) fun ys s2 e2 p2 i2 => ?_
    refine ⟨h2 (y :: ys) s2 (by simp [e2]) (fun i x' y' hx hy => ?_) i2⟩
    cases i with
    | zero => simp at hx hy; subst hx hy; exact h.1
    | succ i => exact p2 i x' y' (by simpa using hx) (by simpa using hy)
theorem lcMap (F : D → D) (h1 : ∀ x, x ∈ xs → ∃ as, b x = some as ∧ f (setE as ρ) s = .ok (F x) s) (h2 : Q (xs.map F) s) : Rm (lcE b cYes f xs ρ) s Q := by
  refine lcY (fun s' => s' = s) (fun x y => y = F x) rfl (fun x s' hx e => ?_) fun ys s' e p i => ?_
  · subst e
    obtain ⟨as, e1, e2⟩ := h1 x hx
    exact ⟨as, e1, eq e2 ⟨rfl, rfl⟩⟩
  · subst i
    have : ys = xs.map F := by
      refine List.ext_getElem? fun i => ?_
      rw [List.getElem?_map]
      cases q : ys[i]? with
      | none =>
        have : xs[i]? = none := by
          rw [List.getElem?_eq_none_iff] at q ⊢
          omega
        rw [this]; rfl
      | some y =>
        obtain ⟨x, hx⟩ : ∃ x, xs[i]? = some x := ⟨_, List.getElem?_eq_getElem (by have := (List.getElem?_eq_some_iff.mp q).1; omega)⟩
        rw [hx, p i x y hx q]; rfl
    rw [this]
    exact h2
/-- a comprehension with a test -/
theorem lcT (I : FS → Prop) (P : D → Prop) (h0 : I s) (h1 : ∀ x s, x ∈ xs → I s → ∃ as, b x = some as ∧ Rm (c (setE as ρ)) s fun k s => if k = true then Rm (f (setE as ρ)) s fun y s => P y ∧ I s else I s)
    (h2 : ∀ (ys : List D) (s : FS), ys.length ≤ xs.length → (∀ y, y ∈ ys → P y) → I s → Q ys s) : Rm (lcE b c f xs ρ) s Q := by
  induction xs generalizing s Q with
  | nil => exact ⟨h2 _ _ (Nat.le_refl _) (fun y h => by simp at h) h0⟩
  | cons x r ih =>
    obtain ⟨as, e, h⟩ := h1 x s List.mem_cons_self h0
    show Rm (M.bind (M.lift (b x)) _) s Q
    rw [e]
    refine bind (lift rfl (bind (h.mono fun k s1 h => ?_)))
    cases k with
    | true =>
      rw [if_pos rfl] at h ⊢
      refine bind (h.mono fun y s' h => bind ?_)
      refine ih h.2 (fun x s hx => h1 x s (List.mem_cons_of_mem _ hx)) fun ys s2 e2 p2 i2 => ?_
      refine ⟨h2 (y :: ys) s2 (by simp [e2]) (fun y' hy => ?_) i2⟩
      rcases List.mem_cons.mp hy with rfl | hy
      · exact h.1
      · exact p2 _ hy
    | false =>
      rw [if_neg (by decide)] at h ⊢
      exact ih h (fun x s hx => h1 x s (List.mem_cons_of_mem _ hx)) fun ys s2 e2 => h2 ys s2 (Nat.le_succ_of_le e2)
theorem run {n k : Nat} {body : Sts → M (Fl × Sts)} {ds : List D} {Q : D → FS → Prop} (hk : ds.length = k) (h : Rm (body (ds.map EV.d ++ List.replicate (n - k) .no)) s fun p s => Rm (runK p) s Q) : Rm (runD n k body ds) s Q := by
  unfold runD
  rw [if_pos hk]
  exact bind h
theorem runNx {ρ : Sts} {Q : D → FS → Prop} (h : Q .non s) : Rm (runK (.nx, ρ)) s Q := ⟨h⟩
theorem runRt {ρ : Sts} {d : D} {Q : D → FS → Prop} (h : Q d s) : Rm (runK (.rt d, ρ)) s Q := ⟨h⟩
theorem draw {n : Int} {Q : D → FS → Prop} (hn : 0 < n) (hn2 : n < 1073741824) (h : s.Ok) (q : ∀ (k : Int) s', s'.Ok → 0 ≤ k → k < n → Q (.int k) s') : Rm (feedFn drawM [.feed, .int n]) s Q := by
  obtain ⟨k, s', e, h1, h2, h3, h4⟩ := drawM_some hn hn2 s h
  refine eq (a := .int k) (s' := s') ?_ (q k s' h1 h3 h4)
  show (match drawM n s with
    | .ok k s' => Res.ok (D.int k) s'
    | _ => .bad) = _
  rw [e]
end
end Rm
theorem rng1_eq {j : Int} (h : -(2 ^ 62) ≤ j) (h2 : j < 2 ^ 62) : rng1 [.int j] = some (rangeD 0 j.toNat) := if_pos ⟨h, h2⟩
theorem rng2_eq {i j : Int} (h : -(2 ^ 62) ≤ i) (h2 : i < 2 ^ 62) (h3 : -(2 ^ 62) ≤ j) (h4 : j < 2 ^ 62) : rng2 [.int i, .int j] = some (rangeD i (j - i).toNat) := if_pos ⟨h, h2, h3, h4⟩
theorem Rm.rng1 {j : Int} {s : FS} {Q : List D → FS → Prop} (h : -(2 ^ 62) ≤ j ∧ j < 2 ^ 62) (q : Q (rangeD 0 j.toNat) s) : Rm (M.lift (DL.rng1 [.int j])) s Q := Rm.lift (rng1_eq h.1 h.2) q
theorem Rm.rng2 {i j : Int} {s : FS} {Q : List D → FS → Prop} (h : (-(2 ^ 62) ≤ i ∧ i < 2 ^ 62) ∧ (-(2 ^ 62) ≤ j ∧ j < 2 ^ 62)) (q : Q (rangeD i (j - i).toNat) s) : Rm (M.lift (DL.rng2 [.int i, .int j])) s Q := Rm.lift (rng2_eq h.1.1 h.1.2 h.2.1 h.2.2) q
theorem Rm.modp {a b : Int} {s : FS} {Q : D → FS → Prop} (h : 0 < b) (q : Q (.int (a % b)) s) : Rm (M.lift (modD (.int a) (.int b))) s Q := Rm.lift (if_pos h) q
theorem Rm.mulp {a b : Int} {s : FS} {Q : D → FS → Prop} (h : (-(2 ^ 64) < a ∧ a < 2 ^ 64) ∨ (-(2 ^ 64) < b ∧ b < 2 ^ 64)) (q : Q (.int (a * b)) s) : Rm (M.lift (mulD (.int a) (.int b))) s Q := Rm.lift (if_pos h) q
theorem Rm.fdivp {a b : Int} {s : FS} {Q : D → FS → Prop} (h : 0 < b ∧ b < 1073741824) (q : Q (.int (a / b)) s) : Rm (M.lift (fdivD (.int a) (.int b))) s Q := Rm.lift (if_pos h) q
theorem Rm.addl {a b : List D} {s : FS} {Q : D → FS → Prop} (h : a.length + b.length ≤ sizeLine) (q : Q (.lst (a ++ b)) s) : Rm (M.lift (addD (.lst a) (.lst b))) s Q := Rm.lift (if_pos h) q
theorem Rm.addt {a b : List D} {s : FS} {Q : D → FS → Prop} (h : a.length + b.length ≤ sizeLine) (q : Q (.tup (a ++ b)) s) : Rm (M.lift (addD (.tup a) (.tup b))) s Q := Rm.lift (if_pos h) q
theorem Rm.app {xs : List D} {y : D} {s : FS} {Q : D × List D → FS → Prop} (h : xs.length < sizeLine) (q : Q (.non, xs ++ [y]) s) : Rm (M.lift (moAppend xs [y])) s Q := Rm.lift (if_pos h) q
theorem Rm.eqi {a b : Int} {s : FS} {Q : D → FS → Prop} (q : Q (.bl (decide (a = b))) s) : Rm (M.lift (eqD (.int a) (.int b))) s Q := Rm.lift (eqD_int a b) q
theorem rangeD_len (lo : Int) (n : Nat) : (rangeD lo n).length = n := by simp [rangeD]
theorem rangeD_get2 {lo : Int} {n i : Nat} {x : D} (h : (rangeD lo n)[i]? = some x) : i < n ∧ x = .int (lo + i) := by
  unfold rangeD at h
  rw [List.getElem?_map] at h
  cases q : (List.range n)[i]? with
  | none => rw [q] at h; cases h
  | some k =>
    rw [q] at h
    obtain ⟨h1, h2⟩ := List.getElem?_eq_some_iff.mp q
    rw [List.getElem_range] at h2
    subst h2
    cases h
    exact ⟨by simpa using h1, rfl⟩
theorem rangeD_mem {lo : Int} {n : Nat} {x : D} (h : x ∈ rangeD lo n) : ∃ i : Nat, i < n ∧ x = .int (lo + i) := by
  unfold rangeD at h
  obtain ⟨i, hi, rfl⟩ := List.mem_map.mp h
  exact ⟨i, by simpa using hi, rfl⟩
theorem fs1_ok (ns : List Int) : (fs1 ns).Ok := ⟨(stir_ok ns).1, (stir_ok ns).2, Int.le_refl _, Int.le_refl _⟩
end DL

set_option Elab.async false
set_option linter.all false
set_option maxRecDepth 100000
set_option maxHeartbeats 2000000
/-! The data layer: lists of a text's signs, sorted, names of the module, calls by keyword, defs that hand on a new list. -/
namespace DL
open PySem PySem.Spec PyProof.Rows L2
/-- the signs of a text -/
def signsD (z : Str) : List D := z.cps.toList.map fun c => .str ⟨#[c]⟩
section
variable {X : Cx} {fa : Option FA}
def rListT : List V → Hp → VK → Prop := fun xs H Q => ∃ z : Str, xs = [.str z] ∧ z.cps.size ≤ sizeLine ∧ ∀ l, H l = none → Q (.ref l) (upd H l (.lst (z.cps.toList.map fun c => V.str ⟨#[c]⟩)))
theorem call_list_text (hc : X.calm = true) : CallR X (.type "list") rListT := by
  intro pins s σ H xs us Q I r h
  obtain ⟨z, e, hz, q⟩ := h
  subst e
  obtain ⟨u, eu, rx⟩ := vals1 r
  subst eu
  obtain ⟨t, rfl⟩ := rx
  refine PySem.call_list_str (I.ok.hd hc) z t (fun h' tk acc' c' hkeep hS hacc => ?_) hz
  refine ⟨.ref s.heap.objs.size, upd H s.heap.objs.size (.lst (z.cps.toList.map fun c => V.str ⟨#[c]⟩)), I.laid hkeep (Nat.le_refl _) (show ObjOk X.prog X.w _ _ _ (.lst (z.cps.toList.map fun c => V.str ⟨#[c]⟩)) from ⟨?_, acc'.toList, c', ?_, ?_⟩), rfl, q _ (I.hok.fresh (Nat.le_refl _))⟩
  · rw [List.length_map, Array.length_toList]; exact hz
  · have el : acc'.toList.length = acc'.size := by simp
    refine vals_of_at (by rw [List.length_map, el, hacc.1, Array.length_toList]) fun j x w h1 h2 => ?_
    have h3 := hacc.2 j w (by rw [← Array.getElem?_toList]; exact h2)
    obtain ⟨c, t', e1, rfl⟩ := h3
    rw [List.getElem?_map, Array.getElem?_toList, e1] at h1
    cases h1
    exact ⟨t', rfl⟩
  · rw [Array.toArray_toList]; exact hS
def listA : List D → Option D
  | [.lst xs] => some (.lst xs)
  | [.tup xs] => some (.lst xs)
  | [.str z] => if z.cps.size ≤ sizeLine then some (.lst (signsD z)) else none
  | _ => none
def rListA (X : Cx) : List V → Hp → VK → Prop := fun xs H Q => (∃ p ys, xs = [.ref p] ∧ (SqL X.K H p ys ∨ SqT X.K H p ys) ∧ ∀ l, H l = none → Q (.ref l) (upd H l (.lst ys))) ∨ rListT xs H Q
theorem call_listA (hc : X.calm = true) : CallR X (.type "list") (rListA X) := CallR.or call_list_of (call_list_text hc)
theorem signs_rep {K : PySem.W.Frag} {F : Hp} : ∀ l : List Nat, RepL K fa F (l.map fun c => D.str ⟨#[c]⟩) (l.map fun c => V.str ⟨#[c]⟩)
  | [] => .nil
  | c :: r => .cons (.str _) (signs_rep r)
theorem ok_listA : CallOk X fa (rListA X) listA := by
  intro F H s xs as Q h1 h2 r h
  cases r with
  | nil => exact h.elim
  | cons r t =>
    cases t with
    | cons _ _ => cases r <;> exact h.elim
    | nil =>
      cases r with
      | lst hq r => exact .inl ⟨_, _, rfl, .inl (SqL.of (h1 _ _ hq)), fun p hp => GoodO.new h1 h2 hp (.lst upd_same (r.mono (Ext.new (fa := fa) h1 hp).ff)) h⟩
      | tup hq r => exact .inl ⟨_, _, rfl, .inr (same_seqT h1 hq), fun p hp => GoodO.new h1 h2 hp (.lst upd_same (r.mono (Ext.new (fa := fa) h1 hp).ff)) h⟩
      | str z =>
        by_cases hz : z.cps.size ≤ sizeLine
        · rw [show listA [.str z] = some (.lst (signsD z)) from if_pos hz] at h
          exact .inr ⟨z, rfl, hz, fun p hp => GoodO.new h1 h2 hp (.lst upd_same (signs_rep _)) h⟩
        · rw [show listA [.str z] = none from if_neg hz] at h
          exact h.elim
      | _ => exact h.elim
def listNA : List D → Option (List D)
  | [.lst xs] => some xs
  | [.tup xs] => some xs
  | [.str z] => if z.cps.size ≤ sizeLine then some (signsD z) else none
  | _ => none
/-! ### sorted -/
def leS (a b : Str) : Bool := !ltCps b.cps.toList a.cps.toList
theorem leS_iff {a b : Str} : leS a b = true ↔ ¬ b.cps.toList < a.cps.toList := by
  unfold leS
  rw [ltCps_eq]
  simp
theorem leS_le {a b : Str} : leS a b = true ↔ a.cps.toList ≤ b.cps.toList := leS_iff.trans List.not_lt
theorem leS_trans {a b c : Str} (h1 : leS a b = true) (h2 : leS b c = true) : leS a c = true := leS_le.mpr (List.le_trans (leS_le.mp h1) (leS_le.mp h2))
theorem leS_total (a b : Str) : (leS a b || leS b a) = true := by
  rcases List.le_total a.cps.toList b.cps.toList with h | h
  · rw [leS_le.mpr h]; rfl
  · rw [leS_le.mpr h, Bool.or_true]
theorem leS_anti {a b : Str} (h1 : leS a b = true) (h2 : leS b a = true) : a = b := by
  have h := List.le_antisymm (leS_le.mp h1) (leS_le.mp h2)
  obtain ⟨⟨x⟩⟩ := a
  obtain ⟨⟨y⟩⟩ := b
  have h : x = y := h
  rw [h]
def sortS (xs : List Str) : List Str := xs.mergeSort leS
theorem pair_of_rising : ∀ (l : List Str) (p : Str), risingS p l = true → (p :: l).Pairwise fun a b => leS a b = true
  | [], p, _ => by simp
  | x :: r, p, h => by
    have h : (!ltCps x.cps.toList p.cps.toList && risingS x r) = true := h
    rw [Bool.and_eq_true] at h
    have ih := pair_of_rising r x h.2
    refine List.pairwise_cons.mpr ⟨fun y hy => ?_, ih⟩
    rcases List.mem_cons.mp hy with rfl | hy
    · exact h.1
    · exact leS_trans h.1 ((List.pairwise_cons.mp ih).1 y hy)
theorem pair_of_sorted : ∀ {l : List Str}, sortedS l = true → l.Pairwise fun a b => leS a b = true
  | [], _ => .nil
  | x :: r, h => pair_of_rising r x h
theorem sortS_pair (xs : List Str) : (sortS xs).Pairwise fun a b => leS a b = true := List.pairwise_mergeSort (le := leS) (fun _ _ _ => leS_trans) leS_total xs
theorem sortS_perm (xs : List Str) : (sortS xs).Perm xs := List.mergeSort_perm xs leS
theorem sortS_eq {xs ys : List Str} (hp : ys.Perm xs) (hs : sortedS ys = true) : ys = sortS xs :=
  List.Perm.eq_of_pairwise (le := fun a b => leS a b = true) (fun _ _ _ _ => leS_anti) (pair_of_sorted hs) (sortS_pair xs) (hp.trans (sortS_perm xs).symm)
def sortI (xs : List Int) : List Int := xs.mergeSort fun a b => decide (a ≤ b)
theorem sortI_pair (xs : List Int) : (sortI xs).Pairwise (· ≤ ·) := (List.pairwise_mergeSort (le := fun a b => decide (a ≤ b)) (fun a b c h1 h2 => by
  have a1 := of_decide_eq_true h1
  have a2 := of_decide_eq_true h2
  exact decide_eq_true (by omega)) (fun a b => by
  by_cases h : a ≤ b
  · simp [h]
  · have : b ≤ a := by omega
    simp [this]) xs).imp fun h => of_decide_eq_true h
theorem sortI_perm (xs : List Int) : (sortI xs).Perm xs := List.mergeSort_perm xs _
theorem sortI_eq {xs ys : List Int} (hp : ys.Perm xs) (hs : ys.Pairwise (· ≤ ·)) : ys = sortI xs :=
  List.Perm.eq_of_pairwise (le := (· ≤ ·)) (fun _ _ _ _ h1 h2 => by omega) hs (sortI_pair xs) (hp.trans (sortI_perm xs).symm)
def strsD : List D → Option (List Str)
  | [] => some []
  | .str i :: xs => (strsD xs).map fun r => i :: r
  | _ => none
theorem strsD_rep {K : PySem.W.Frag} {F : Hp} : ∀ {xs : List D} {vs : List V} {ns : List Str}, strsD xs = some ns → RepL K fa F xs vs → vs = ns.map V.str
  | _, _, _, h, .nil => by cases h; rfl
  | x :: xs, v :: vs, ns, h, .cons r t => by
    cases r with
    | str i =>
      rw [strsD] at h
      cases q : strsD xs with
      | none => rw [q] at h; cases h
      | some ms => rw [q] at h; cases h; rw [strsD_rep q t]; rfl
    | _ => cases h
theorem repL_strs {K : PySem.W.Frag} {F : Hp} : ∀ l : List Str, RepL K fa F (l.map D.str) (l.map V.str)
  | [] => .nil
  | c :: r => .cons (.str _) (repL_strs r)
def sortL (xs : List D) : Option (List D) := match strsD xs with
  | some ss => if ss.length < 64 then some ((sortS ss).map .str) else none
  | none => (intsD xs).map fun ns => (sortI ns).map .int
def sortedD : List D → Option D
  | [.lst xs] => (sortL xs).map .lst
  | _ => none
def rSortA (X : Cx) : List V → Hp → VK → Prop := fun xs H Q => rSortedS X.K xs H Q ∨ rSortedI X.K xs H Q
theorem cr_sortA : CallR X (.builtin "sorted") (rSortA X) := CallR.or cr_sortedS cr_sortedI
theorem ok_sorted : CallOk X fa (rSortA X) sortedD := by
  intro F H s xs as Q h1 h2 r h
  cases r with
  | nil => exact h.elim
  | cons r t =>
    cases t with
    | cons _ _ => cases r <;> exact h.elim
    | nil =>
      cases r with
      | @lst a xs vs hq r =>
        change GoodO X fa F H s ((sortL xs).map .lst) Q at h
        unfold sortL at h
        cases q : strsD xs with
        | some ss =>
          rw [q] at h
          by_cases hl : ss.length < 64
          · have h : GoodO X fa F H s (some (.lst ((sortS ss).map .str))) Q := by simpa [hl] using h
            have e := strsD_rep q r
            subst e
            refine .inl ⟨a, ss, rfl, SqL.of (h1 _ _ hq), hl, fun ys p hp hs hn => ?_⟩
            rw [sortS_eq hp hs]
            exact GoodO.new h1 h2 hn (.lst upd_same (repL_strs _)) h
          · have h : GoodO X fa F H s none Q := by simpa [hl] using h
            exact h.elim
        | none =>
          rw [q] at h
          change GoodO X fa F H s (((intsD xs).map fun ns => (sortI ns).map .int).map .lst) Q at h
          cases q2 : intsD xs with
          | none => rw [q2] at h; exact h.elim
          | some ns =>
            rw [q2] at h
            have e := intsD_rep q2 r
            subst e
            refine .inr ⟨a, ns, rfl, SqL.of (h1 _ _ hq), fun ys p hp hs hn => ?_⟩
            rw [sortI_eq hp hs]
            exact GoodO.new h1 h2 hn (.lst upd_same (RepL.ints _)) h
      | _ => exact h.elim
end
/-! ### names of the module -/
section
variable {X : Cx} {fa : Option FA} {W : L2.St → XK} {x : Str} {pos : Pos}
theorem ed_gstr {y : Str} (h : ∃ t, X.mg x = some (.str y t)) (hg : Gl X x := by rfl) (hd : (x == ("__debug__" : Str)) = false := by decide) : ED X fa W (.Name x pos) (dC (.str y)) := by
  obtain ⟨t, h⟩ := h
  exact ed_glob (.str y) (fun _ => .str y) h ⟨t, rfl⟩ hg hd
theorem ed_gint {y : Int} (h : ∃ t, X.mg x = some (.int y t)) (hg : Gl X x := by rfl) (hd : (x == ("__debug__" : Str)) = false := by decide) : ED X fa W (.Name x pos) (dC (.int y)) := by
  obtain ⟨t, h⟩ := h
  exact ed_glob (.int y) (fun _ => .int y) h ⟨t, rfl⟩ hg hd
end
end DL

set_option Elab.async false
set_option linter.all false
set_option maxRecDepth 100000
set_option maxHeartbeats 2000000
/-! The data layer: defs that hand on a new list, calls by keyword. -/
namespace DL
open PySem PySem.Spec PyProof.Rows L2
def GoodNK (K : PySem.W.Frag) (mg : Str → Option Value) (fa : Option FA) (F H : Hp) (r : Res (List D)) (Q : VK) : Prop :=
  match r with
  | .ok xs s' => ∀ p vs F' H', Ext fa F H F' H' → FeedOk K fa F' H' s' → H p = none → F' p = none → H' p = some (.lst vs) → RepL K fa F' xs vs → Q (.ref p) H'
  | _ => False
/-- the promise: no argument; a new list -/
def NewSp (K : PySem.W.Frag) (mg : Str → Option Value) (g : M (List D)) : Sp := fun vs H Q E =>
  vs = [] ∧ ∃ fa F s, Same F H ∧ FeedOk K fa F H s ∧ GoodNK K mg fa F H (g s) Q
structure CalN (P : Program) (w : World) (K : PySem.W.Frag) (mg : Str → Option Value) (base : Heap) (k : Nat) (x : Str) (g : M (List D)) : Prop where
  ex : ∃ f fd, FnOk P w K mg base (L2.CX P w) k f fd [] (NewSp K mg g) ∧ mg x = some (.ref f) ∧ PySem.W.keepIn K (.ref f) = true ∧ Binds K fd [] []
theorem passF {X : Cx} : Passes (L2.CX X.prog X.w) X (fun _ _ _ => False) := by
  intro pins σ H s e s' I c
  obtain ⟨_, _, _, _, _, _, _, _, _, _, _, _, h⟩ := c
  exact h.elim
section
variable {P : Program} {w : World} {K : PySem.W.Frag} {mg : Str → Option Value} {base : Heap}
theorem caln_of {x : Str} {st : Stmt} {k : Nat} {g : M (List D)} (D0 : Dff K mg x [] st) (h : ∀ f fd, Fun K x x st f fd → FnOk P w K mg base (L2.CX P w) k f fd [] (NewSp K mg g)) : CalN P w K mg base k x g := by
  obtain ⟨f, fd, F, hm, hb⟩ := D0.ex
  exact ⟨f, fd, h f fd F, hm, F.kp, hb⟩
theorem CalN.mono {x : Str} {j k : Nat} {g : M (List D)} (C : CalN P w K mg base j x g) (h : j ≤ k) : CalN P w K mg base k x g := by
  obtain ⟨f, fd, F, hm, hk, hb⟩ := C.ex
  exact ⟨f, fd, F.mono h, hm, hk, hb⟩
theorem fn_new {x qual : Str} {st : Stmt} {f : Addr} {fd : FuncData} {N : List Str} {k : Nat} {e : Expr} {pos : Pos} {g : Env' → M (List D)} (F : Fun K x qual st f fd) (S : FnScope N [] (defScope st)) (hst : defBody st = [.Return (some e) pos])
    (hbody : ∀ (cdv : Value) (A : Around) (outer : List Env) (s : Shared) (H : Hp) (E : XK) (fa : Option FA), Room k (A.deeper (envOfC qual (defScope st) s.heap.objs.size f cdv)) →
      ND (cxOf (L2.CX P w) P w K mg base N qual (defScope st) f cdv A outer s H E) fa (fun _ => E) e g) :
    FnOk P w K mg base (L2.CX P w) (k + 1) f fd [] (NewSp K mg (M.quiet (g []))) := by
  refine F.okX S (fun vs H Q E h => by rw [h.1]; rfl) fun cdv A outer s H vs Q E hr h => ?_
  obtain ⟨rfl, fa, Fz, fs, h1, h2, gd⟩ := h
  obtain ⟨t, p, kk⟩ := hbody cdv A outer s H E fa hr
  refine ⟨_, by rw [hst]; exact pss_one (ps_ret p), ?_⟩
  refine kk _ Fz H [] fs Q h1 h2 ⟨Nat.zero_le _, fun i d hi => by simp at hi⟩ ?_
  unfold M.quiet at gd
  cases q : g [] fs with
  | bad => rw [q] at gd; exact gd.elim
  | err e s' => rw [q] at gd; exact gd.elim
  | ok xs s' => rw [q] at gd; exact gd
section
variable {X : Cx} {fa : Option FA} {W : L2.St → XK} {e : Expr} {es : List Expr} {kws : List Keyword} {p pos : Pos} {f1 : Env' → M D} {fl fk : Env' → M (List D)}
theorem nd_cal0 {k : Nat} {g : M (List D)} {x : Str} (C : CalN X.prog X.w X.K X.mg X.base k x g) (hr : Room k X.A) (hg : Gl X x := by rfl) (hdb : (x == ("__debug__" : Str)) = false := by decide) : ND X fa W (.Call (.Name x p) [] [] pos) (fun _ => M.quiet g) := by
  obtain ⟨f, fd, F, hm, hk, hb⟩ := C.ex
  refine ⟨_, pe_call0 F hr hg hm hk hb .nil passF hdb, fun σ F H ρ s Q h1 h2 h3 h => ?_⟩
  refine ⟨rfl, fa, F, s, h1, h2, ?_⟩
  unfold M.quiet at h
  dsimp only at h
  cases q : g s with
  | bad => rw [q] at h; exact h.elim
  | err e s' => rw [q] at h; exact h.elim
  | ok d s' => rw [q] at h; exact h
/-! ### keywords -/
/-- the values of keywords -/
def KD (X : Cx) (fa : Option FA) (W : L2.St → XK) (ks : List Keyword) (f : Env' → M (List D)) : Prop := ∃ t, PK X ks t ∧ TLOk X fa W t f
theorem kd_nil : KD X fa W [] lNil := ⟨_, pk_nil, fun σ F H ρ s Q h1 h2 h3 h => h [] F H (Ext.refl h1) h2 .nil⟩
theorem kd_cons {nm : Option Str} {kpos : Pos} (h : ED X fa W e f1) (hk : KD X fa W kws fk) : KD X fa W (⟨nm, e, kpos⟩ :: kws) (lCons f1 fk) := by
  obtain ⟨t1, p1, k1⟩ := h
  obtain ⟨t2, p2, k2⟩ := hk
  refine ⟨_, pk_cons p1 p2, fun σ F H ρ s Q h1 h2 h3 h => ?_⟩
  refine k1.then GoodL.tgt h1 h2 h3 h fun x s1 v F1 H1 e1 o1 r1 v1 h' => ?_
  refine k2.then GoodL.tgt e1.fh o1 v1 h' fun xs s2 vs F2 H2 e2 o2 r2 v2 h'' => ?_
  exact h'' (v :: vs) F2 H2 (Ext.refl e2.fh) o2 (.cons (r1.mono e2.ff) r2)
/-- n arguments in order, the rest by keyword -/
def gN {α : Type} (n : Nat) (us ws : List α) : List α := if us.length = n then us ++ ws else []
/-- a def of the text stands there; behind n arguments the rest may be given by keyword -/
structure Kff (K : PySem.W.Frag) (mg : Str → Option Value) (x : Str) (ps : List Str) (n : Nat) (ks : List Str) (st : Stmt) : Prop where
  ex : ∃ f fd, Fun K x x st f fd ∧ mg x = some (.ref f) ∧ KBinds K fd ps ks (gN n) (gN n)
structure Kal (P : Program) (w : World) (K : PySem.W.Frag) (mg : Str → Option Value) (base : Heap) (k : Nat) (x : Str) (ps : List Str) (n : Nat) (ks : List Str) (g : List D → M D) : Prop where
  ex : ∃ f fd, FnOk P w K mg base (L2.CX P w) k f fd ps (DSp K mg g) ∧ mg x = some (.ref f) ∧ PySem.W.keepIn K (.ref f) = true ∧ KBinds K fd ps ks (gN n) (gN n)
theorem kal_of {x : Str} {ps ks : List Str} {n : Nat} {st : Stmt} {k : Nat} {g : List D → M D} (D0 : Kff K mg x ps n ks st) (h : ∀ f fd, Fun K x x st f fd → FnOk P w K mg base (L2.CX P w) k f fd ps (DSp K mg g)) : Kal P w K mg base k x ps n ks g := by
  obtain ⟨f, fd, F, hm, hb⟩ := D0.ex
  exact ⟨f, fd, h f fd F, hm, F.kp, hb⟩
theorem vals_app : ∀ {vs zs : List V} {us ws : List Value}, Vals vs us → Vals zs ws → Vals (vs ++ zs) (us ++ ws)
  | _, _, _, _, .nil, h => h
  | _, _, _, _, .cons r t, h => .cons r (vals_app t h)
theorem kff_mk {x : Str} {ps ks : List Str} {n : Nat} {st : Stmt} {f : Addr} {oc : Value} {od an : Option Addr} {osl : Array (Option Value)} {kV doc pm cdv ct : Value} {h : Heap} (X : K.In h) (G : h.Ns mainGlobals mg)
    (a : PySem.W.nsIn K mainGlobals x = some (some (.ref f))) (l : K.lookup f = some ⟨oc, od, .func (PySem.W.fnOf x x (defArgs st) (defBody st) (defScope st) .none kV doc pm an cdv ct), osl⟩) (c : PySem.W.codeIn K cdv x = true) (kp : PySem.W.keepIn K (.ref f) = true) (hp : 0 < ps.length)
    (hb : ∀ (kV doc pm : Value) (an : Option Addr) (cdv ct : Value) (us ws : List Value), us.length = n → us.length + ws.length = ps.length → bindArgs (PySem.W.fnOf x x (defArgs st) (defBody st) (defScope st) .none kV doc pm an cdv ct) ⟨us, ks.zip ws⟩ = pure (ps.zip (us ++ ws))) : Kff K mg x ps n ks st := by
  refine ⟨f, _, fun_mk (st := st) l c kp, PySem.W.mg_of X G a, ⟨fun s us ws _ hl => ?_, fun {vs us zs ws} r r2 => ?_⟩⟩
  · by_cases hu : us.length = n
    · unfold gN at hl ⊢
      rw [if_pos hu] at hl ⊢
      exact .of_eq (hb _ _ _ _ _ _ us ws hu (by rw [← hl, List.length_append]))
    · unfold gN at hl
      rw [if_neg hu] at hl
      have : ps.length = 0 := hl.symm
      omega
  · unfold gN
    rw [r.length]
    split
    · exact vals_app r r2
    · exact .nil
/-- f(k = v, ..) -/
theorem pe_callK0 {CX : CXT} {k : Nat} {f : Addr} {fd : FuncData} {ps ks : List Str} {sp : Sp} {E : XK} {tk : TA} {g : List Value → List Value → List Value} {gV : List V → List V → List V} {x : Str} (F : FnOk X.prog X.w X.K X.mg X.base CX k f fd ps sp) (hr : Room k X.A) (hg : Gl X x) (hm : X.mg x = some (.ref f)) (hk : PySem.W.keepIn X.K (.ref f) = true) (hb : KBinds X.K fd ps ks g gV) (hx : Passes CX X E)
    (hkw : PK X kws tk) (hall : (backToKw pos (keywordEach kws X.env)).all (·.1.isSome) = true := by rfl) (hks : (backToKw pos (keywordEach kws X.env)).filterMap (·.1) = ks := by rfl)
    (hdb : (x == ("__debug__" : Str)) = false := by decide) (hpl : ((backTo pos (starEach [] X.env)).any (·.1) || (backToKw pos (keywordEach kws X.env)).any (·.1.isNone)) = false := by rfl) :
    PE X (.Call (.Name x p) [] kws pos) (tCallK sp gV E tNil tk) := by
  refine ⟨fun pins s σ H Q I h => ?_⟩
  refine wpAny_Call_Name_kw (ld_glob I hg hm ?_ hdb)
  refine PySem.W.callWith_KW0 (h₀ := X.base) I.ok.mod.kin hk hall ?_ hpl
  refine thn (hkw.run pos pins s σ H _ I h) fun ws s2 ⟨zs, H2, I2, rz, q2⟩ => ⟨I2.kIn, ?_⟩
  rw [hks]
  exact run_fnk (us := []) (vs := []) F hr hb hx I2 .nil rz q2
/-- f(k = v, ..): a def that raises nothing here -/
theorem ed_kal0 {k : Nat} {g : List D → M D} {x : Str} {ps ks : List Str} (C : Kal X.prog X.w X.K X.mg X.base k x ps 0 ks g) (hr : Room k X.A) (ha : KD X fa W kws fk) (hg : Gl X x := by rfl)
    (hall : (backToKw pos (keywordEach kws X.env)).all (·.1.isSome) = true := by rfl) (hks : (backToKw pos (keywordEach kws X.env)).filterMap (·.1) = ks := by rfl)
    (hdb : (x == ("__debug__" : Str)) = false := by decide) (hpl : ((backTo pos (starEach [] X.env)).any (·.1) || (backToKw pos (keywordEach kws X.env)).any (·.1.isNone)) = false := by rfl) :
    ED X fa W (.Call (.Name x p) [] kws pos) (dCall (fun ds => M.quiet (g ds)) fk) := by
  obtain ⟨f, fd, F, hm, hk, hb⟩ := C.ex
  obtain ⟨t, pk, kk⟩ := ha
  refine ⟨_, pe_callK0 F hr hg hm hk hb passF pk hall hks hdb hpl, fun σ F H ρ s Q h1 h2 h3 h => ?_⟩
  refine kk.then Good.tgt h1 h2 h3 h fun xs s1 vs F1 H1 e1 o1 r1 v1 h' => ?_
  refine ⟨fa, F1, s1, xs, e1.fh, o1, r1, ?_⟩
  change Good X fa (W σ) F1 H1 (M.quiet (g xs) s1) Q at h'
  unfold M.quiet at h'
  cases q : g xs s1 with
  | bad => rw [q] at h'; exact h'
  | err e s' => rw [q] at h'; exact h'.elim
  | ok d s' => rw [q] at h'; exact h'
end
end
end DL

set_option Elab.async false
set_option linter.all false
set_option maxRecDepth 100000
set_option maxHeartbeats 2000000
/-! The data layer: a text some times; list(x), new. -/
namespace DL
open PySem PySem.Spec PyProof.Rows L2
def mulS (x : Str) (n : Int) : Str := if n < 1 then Str.empty else if (n == 1 || x.length == 0) = true then x else ⟨(List.replicate n.toNat x.cps).foldl (· ++ ·) #[]⟩
def mulSD : D → D → Option D
  | .str x, .int n => if -1000 ≤ n ∧ n ≤ 1000 ∧ x.length ≤ 1000 ∧ (mulS x n).length ≤ sizeLine then some (.str (mulS x n)) else none
  | _, _ => none
section
variable {X : Cx} {fa : Option FA} {W : L2.St → XK}
def rMulS : R2 := fun x y H Q => ∃ z n, x = .str z ∧ y = .int n ∧ (-1000 ≤ n ∧ n ≤ 1000 ∧ z.length ≤ 1000 ∧ (mulS z n).length ≤ sizeLine) ∧ Q (.str (mulS z n)) H
theorem op_mulS : OpR X (binaryOp .Mult) rMulS := by
  intro pins s σ H x y v u Q I rx ry h
  obtain ⟨z, n, rfl, rfl, ⟨h1, h2, h3, h4⟩, q⟩ := h
  obtain ⟨t, rfl⟩ := rx
  obtain ⟨t', rfl⟩ := ry
  refine PySem.P.mul_str ?_ ?_ ?_ ?_
  · rw [decide_eq_false (by omega), decide_eq_false (by omega)]; rfl
  · intro h5 _ h6
    have : (1000 : Int) ≤ (2 ^ 63 - 1) / n := by
      rw [Int.le_ediv_iff_mul_le (by omega)]
      omega
    omega
  · intro h5 _
    unfold Builtin.Str.tooLong
    have hz : sizeLine = 16777216 := rfl
    refine decide_eq_false ?_
    have : z.length * n.toNat ≤ 1000 * 1000 := Nat.mul_le_mul h3 (by omega)
    rw [hz]
    omega
  · unfold mulS at h4 q
    by_cases h5 : n < 1
    · rw [if_pos h5] at h4 q ⊢
      exact ⟨h4, .str Str.empty, H, I.tok _, ⟨_, rfl⟩, q⟩
    · rw [if_neg h5] at h4 q ⊢
      by_cases h6 : (n == 1 || z.length == 0) = true
      · rw [if_pos h6] at h4 q ⊢
        exact ⟨.str z, H, I, ⟨_, rfl⟩, q⟩
      · rw [if_neg h6] at h4 q ⊢
        exact ⟨h4, .str _, H, I.tok _, ⟨_, rfl⟩, q⟩
theorem ok_mulS : OpOk X fa rMulS mulSD := by
  intro F H s x y a b Q h1 h2 ra rb h
  cases ra with
  | str z =>
    cases rb with
    | int n =>
      by_cases hl : -1000 ≤ n ∧ n ≤ 1000 ∧ z.length ≤ 1000 ∧ (mulS z n).length ≤ sizeLine
      · rw [show mulSD (.str z) (.int n) = some (.str (mulS z n)) from if_pos hl] at h
        exact ⟨z, n, rfl, rfl, hl, GoodO.here h1 h2 (.str _) h⟩
      · rw [show mulSD (.str z) (.int n) = none from if_neg hl] at h
        exact h.elim
    | _ => exact h.elim
  | _ => cases rb <;> exact h.elim
variable {e : Expr} {p pos : Pos} {fl : Env' → M (List D)}
theorem nd_listA {x : Str} (hm : X.mg x = none) (hc : X.calm = true) (ha : LD X fa W [e] fl) (hv : bootBuiltins x = some (.type "list") := by decide +kernel) (hg : Gl X x := by rfl) (hn : x ≠ "__name__" := by decide) (hdb : (x == ("__debug__" : Str)) = false := by decide) (he : starEach [e] X.env = (false, eval e X.env) :: starEach [] X.env := by rfl) (hpl : (backTo pos (starEach [] X.env)).any (·.1) = false := by rfl) :
    ND X fa W (.Call (.Name x p) [e] [] pos) (fun ρ => (fl ρ).bind fun xs => M.lift (listNA xs)) := by
  obtain ⟨ta, pa, ka⟩ := ha
  refine ⟨_, pe_callTy (call_listA hc) hg hm hv pa hn hdb he hpl, fun σ F H ρ s Q h1 h2 h3 h => ?_⟩
  refine ka.then GoodN.tgt h1 h2 h3 h fun xs s1 vs F1 H1 e1 o1 r1 v1 h' => ?_
  have fin : ∀ (us : List V) (ds : List D), RepL X.K fa F1 ds us → GoodN X fa (W σ) F1 H1 (.ok ds s1) Q → ∀ l, H1 l = none → Q (.ref l) (upd H1 l (.lst us)) := fun us ds rl hg l hl => by
    have fl : F1 l = none := Same.free e1.fh hl
    refine hg l us F1 (upd H1 l (.lst us)) ⟨Same.refl _, fun b u z => ?_, fun b u z _ => ?_, fun _ _ => rfl, fun b z => ?_⟩ (o1.ext_same (Same.refl _) (fun b u z => by rw [upd_ne (ne_of_none z hl)]; exact z) fun _ _ => rfl) hl fl upd_same rl
    · rw [upd_ne (ne_of_none z fl)]; exact e1.fh b u z
    · rw [upd_ne (ne_of_none z hl)]; exact z
    · have : b ≠ l := fun q => z (q ▸ hl)
      rw [upd_ne this]; exact z
  cases r1 with
  | nil => exact h'.elim
  | cons r t =>
    cases t with
    | cons _ _ => cases r <;> exact h'.elim
    | nil =>
      cases r with
      | lst hq r => exact .inl ⟨_, _, rfl, .inl (SqL.of (e1.fh _ _ hq)), fin _ _ r h'⟩
      | tup hq r => exact .inl ⟨_, _, rfl, .inr (same_seqT e1.fh hq), fin _ _ r h'⟩
      | str z =>
        by_cases hz : z.cps.size ≤ sizeLine
        · have h' : GoodN X fa (W σ) F1 H1 (M.lift (listNA [.str z]) s1) Q := h'
          rw [show listNA [.str z] = some (signsD z) from if_pos hz] at h'
          exact .inr ⟨z, rfl, hz, fin _ _ (signs_rep _) h'⟩
        · have h' : GoodN X fa (W σ) F1 H1 (M.lift (listNA [.str z]) s1) Q := h'
          rw [show listNA [.str z] = none from if_neg hz] at h'
          exact h'.elim
      | _ => exact h'.elim
end
end DL

set_option Elab.async false
set_option linter.all false
set_option maxRecDepth 100000
set_option maxHeartbeats 2000000
/-! The data layer: cuts, texts. -/
namespace DL
open PySem PySem.Spec PyProof.Rows L2
theorem sIx_pos {n d : Nat} {v : Int} (h : 0 ≤ v) : HT.sIx n d (some v) = min v.toNat n := by
  unfold HT.sIx
  exact if_neg (by omega)
theorem take_min {α : Type} (xs : List α) (k : Nat) : xs.take (min k xs.length) = xs.take k := by
  rcases Nat.le_total k xs.length with h | h
  · rw [Nat.min_eq_left h]
  · rw [Nat.min_eq_right h, List.take_of_length_le (Nat.le_refl _), List.take_of_length_le h]
theorem drop_min {α : Type} (xs : List α) (k : Nat) : xs.drop (min k xs.length) = xs.drop k := by
  rcases Nat.le_total k xs.length with h | h
  · rw [Nat.min_eq_left h]
  · rw [Nat.min_eq_right h, List.drop_of_length_le (Nat.le_refl _), List.drop_of_length_le h]
theorem cut_hi {α : Type} (xs : List α) {v : Int} (h : 0 ≤ v) : (xs.drop (HT.sIx xs.length 0 none)).take (HT.sIx xs.length xs.length (some v) - HT.sIx xs.length 0 none) = xs.take v.toNat := by
  rw [sIx_pos h, HT.sIx_none, List.drop_zero, Nat.sub_zero, take_min]
theorem cut_lo {α : Type} (xs : List α) {v : Int} (h : 0 ≤ v) : (xs.drop (HT.sIx xs.length 0 (some v))).take (HT.sIx xs.length xs.length none - HT.sIx xs.length 0 (some v)) = xs.drop v.toNat := by
  rw [sIx_pos h, HT.sIx_none, drop_min]
  refine List.take_of_length_le ?_
  rw [List.length_drop]
  omega
section
variable {s : FS} {Q : D → FS → Prop} {v : Int}
theorem Rm.slLhi {xs : List D} (h : 0 ≤ v) (q : Q (.lst (xs.take v.toNat)) s) : Rm (M.lift (slD (.lst xs) none (some v))) s Q := Rm.lift (congrArg (fun l => some (D.lst l)) (cut_hi xs h)) q
theorem Rm.slLlo {xs : List D} (h : 0 ≤ v) (q : Q (.lst (xs.drop v.toNat)) s) : Rm (M.lift (slD (.lst xs) (some v) none)) s Q := Rm.lift (congrArg (fun l => some (D.lst l)) (cut_lo xs h)) q
theorem Rm.slThi {xs : List D} (h : 0 ≤ v) (q : Q (.tup (xs.take v.toNat)) s) : Rm (M.lift (slD (.tup xs) none (some v))) s Q := Rm.lift (congrArg (fun l => some (D.tup l)) (cut_hi xs h)) q
theorem Rm.slTlo {xs : List D} (h : 0 ≤ v) (q : Q (.tup (xs.drop v.toNat)) s) : Rm (M.lift (slD (.tup xs) (some v) none)) s Q := Rm.lift (congrArg (fun l => some (D.tup l)) (cut_lo xs h)) q
theorem Rm.slS {z : Str} {lo hi : Option Int} (h : z.length ≤ sizeLine) (q : Q (.str (cutS z lo hi)) s) : Rm (M.lift (slD (.str z) lo hi)) s Q := Rm.lift (if_pos h) q
theorem Rm.adds {a b : Str} (h : a.length + b.length ≤ sizeLine) (q : Q (.str (a ++ b)) s) : Rm (M.lift (addD (.str a) (.str b))) s Q := Rm.lift (if_pos h) q
theorem Rm.lenS {z : Str} (h : z.length ≤ sizeLine) (q : Q (.int z.length) s) : Rm (M.lift (lenD [.str z])) s Q := Rm.lift (if_pos h) q
theorem cutS_len (z : Str) (lo hi : Option Int) : (cutS z lo hi).length ≤ z.length := by
  unfold cutS
  show (List.toArray _).size ≤ z.cps.size
  rw [List.size_toArray]
  refine Nat.le_trans (List.length_take_le' _ _) ?_
  rw [List.length_drop, Array.length_toList]
  omega
theorem strApp_len (a b : Str) : (a ++ b).length = a.length + b.length := by
  show (a.cps ++ b.cps).size = a.cps.size + b.cps.size
  rw [Array.size_append]
end
section
variable {ρ : Env'} {s : FS} {f1 f2 f3 : Env' → M D} {g g' : D → D → Option D} {Q : D → FS → Prop} {QB : Bool → FS → Prop}
def Rm.chainK (g' : D → D → Option D) (f3 : Env' → M D) (ρ : Env') (y : D) (k : Bool) : M D := if k = true then (f3 ρ).bind fun w => M.lift (g' y w) else M.pure (.bl false)
theorem Rm.chain (h : Rm (f1 ρ) s fun x s => Rm (f2 ρ) s fun y s => Rm (M.lift (g x y)) s fun z s => Rm (M.lift (blD z)) s fun k s => Rm (Rm.chainK g' f3 ρ y k) s Q) : Rm (dChain g g' f1 f2 f3 ρ) s Q :=
  Rm.bind (h.mono fun _ _ h => Rm.bind (h.mono fun _ _ h => Rm.bind (h.mono fun _ _ h => Rm.bind h)))
theorem Rm.chainT {y : D} {k : Bool} (e : k = true) (h : Rm (f3 ρ) s fun w s => Rm (M.lift (g' y w)) s Q) : Rm (Rm.chainK g' f3 ρ y k) s Q := by
  subst e
  exact Rm.bind h
theorem Rm.chainF {y : D} {k : Bool} (e : k = false) (h : Q (.bl false) s) : Rm (Rm.chainK g' f3 ρ y k) s Q := by
  subst e
  exact ⟨h⟩
theorem Rm.chainC {y : D} {k : Bool} (h1 : k = true → Rm (f3 ρ) s fun w s => Rm (M.lift (g' y w)) s Q) (h2 : k = false → Q (.bl false) s) : Rm (Rm.chainK g' f3 ρ y k) s Q := by
  cases k with
  | true => exact Rm.bind (h1 rfl)
  | false => exact ⟨h2 rfl⟩
theorem Rm.cchain (h : Rm (dChain g g' f1 f2 f3 ρ) s fun z s => Rm (M.lift (blD z)) s QB) : Rm (cChain g g' f1 f2 f3 ρ) s QB := Rm.bind h
end
theorem bls_map {α : Type} (p : α → Bool) : ∀ xs : List α, blsD (xs.map fun x => D.bl (p x)) = some (xs.map p)
  | [] => rfl
  | x :: xs => by
    show (blsD (xs.map fun x => D.bl (p x))).map _ = _
    rw [bls_map p xs]
    rfl
theorem all_map {α : Type} (p : α → Bool) (xs : List α) : allD [.lst (xs.map fun x => D.bl (p x))] = some (.bl (xs.all p)) := by
  show (blsD _).map _ = _
  rw [bls_map]
  show some (D.bl ((xs.map p).all id)) = _
  rw [List.all_map]
  rfl
section
variable {ρ : Sts} {s : FS} {f : Env' → M D} {fl : Env' → M (List D)} {Q : Fl × Sts → FS → Prop} {i : Nat}
theorem Rm.setM (h : Rm (f (mask ρ)) s fun x s => Q (.nx, ρ.set i (.d x)) s) : Rm (gSet i (vMask f) ρ) s Q := Rm.set (Rm.vmask h)
theorem Rm.setV (h : Rm (f (view ρ)) s fun x s => Rm (M.lift (scalD x)) s fun x s => Q (.nx, ρ.set i (.d x)) s) : Rm (gSet i (vView f) ρ) s Q := Rm.set (Rm.vview h)
theorem Rm.setN (h : Rm (fl (mask ρ)) s fun x s => Q (.nx, ρ.set i (.ol x)) s) : Rm (gSet i (vNew fl) ρ) s Q := Rm.set (Rm.vnew h)
theorem Rm.mulSp {x : Str} {n : Int} {Q : D → FS → Prop} (h : -1000 ≤ n ∧ n ≤ 1000 ∧ x.length ≤ 1000 ∧ (mulS x n).length ≤ sizeLine) (q : Q (.str (mulS x n)) s) : Rm (M.lift (mulSD (.str x) (.int n))) s Q := Rm.lift (if_pos h) q
end
end DL

set_option Elab.async false
set_option linter.all false
set_option maxRecDepth 100000
set_option maxHeartbeats 2000000
/-! The data layer: the keys of a dict, walked; copies of dicts. -/
namespace DL
open PySem PySem.Spec PyProof.Rows L2
def IOkP (Pre : Hp → L2.St → Prop) (X : Cx) (fa : Option FA) (W : L2.St → XK) (wi : TI) (f : Env' → M (List D)) : Prop :=
  ∀ (σ : L2.St) (F H : Hp) (ρ : Env') (s : FS) (R : It → Hp → Prop), Pre F σ → Same F H → FeedOk X.K fa F H s → EnvOk X.K fa F σ ρ → GoodI X fa (W σ) F H (f ρ s) R → wi σ H R
def NOkP (Pre : Hp → L2.St → Prop) (X : Cx) (fa : Option FA) (W : L2.St → XK) (t : TE) (f : Env' → M (List D)) : Prop :=
  ∀ (σ : L2.St) (F H : Hp) (ρ : Env') (s : FS) (Q : VK), Pre F σ → Same F H → FeedOk X.K fa F H s → EnvOk X.K fa F σ ρ → GoodN X fa (W σ) F H (f ρ s) Q → t σ H Q
section
variable {X : Cx} {fa : Option FA} {Wσ : L2.St → XK}
theorem nok_lcP {Pre : Hp → L2.St → Prop} {tg iter elt : Expr} {it : Env' → M (List D)} {b : D → Option Asg} {c : Env' → M Bool} {f : Env' → M D} {wi : TI} {vs ns : List Nat} (ki : IOkP Pre X fa Wσ wi it) (hin : ∀ n ∈ ns, n ∈ vs) (hni : ∀ n ∈ vs, n ∈ ns) :
    NOkP Pre X fa Wσ (tLc wi (gStar X ns b) (tStarB X fa Wno c) (tStar X fa Wno f) vs) (dLc it b c f) := by
  intro σ F H ρ s Q hp h1 h2 h3 hg
  refine ki σ F H ρ s _ hp h1 h2 h3 ?_
  change GoodN X fa (Wσ σ) F H ((it ρ s).bnd _) Q at hg
  generalize it ρ s = r at hg
  cases r with
  | bad => exact hg
  | err e s' => exact hg
  | ok xs s0 =>
    intro J F1 H1 e1 o1 wj D' hD
    change GoodN X fa (Wσ σ) F H ((if xs.length ≤ sizeLine then M.quiet (lcE b c f xs ρ) else M.bad) s0) Q at hg
    by_cases hl : xs.length ≤ sizeLine
    · rw [if_pos hl] at hg
      obtain ⟨ys, s9, hys, hg⟩ := quiet_ok (P := fun r => GoodN X fa (Wσ σ) F H r Q) (fun z => z) hg
      obtain ⟨G, Y, wk, hG, hY⟩ := wj.ex
      have nf : Nfa fa D' := fun φ q z => by
        obtain ⟨g1, g2, g3, g4⟩ := o1 φ q
        rw [z, hD] at g3
        cases g3
      have fD : F1 D' = none := Same.free e1.fh hD
      have C0 : CSt X fa F1 H1 D' F1 (upd H1 D' (.lst [])) [] s0 := by
        refine ⟨⟨Same.refl _, fun b u z => ?_, fun b u z _ => ?_, fun _ _ => rfl, fun b z => ?_⟩, fun φ q => ?_, fD, hD, nf, [], upd_same, .nil⟩
        · rw [upd_ne (ne_of_none z fD)]; exact e1.fh b u z
        · rw [upd_ne (ne_of_none z hD)]; exact z
        · have : b ≠ D' := fun q => z (q ▸ hD)
          rw [upd_ne this]; exact z
        · obtain ⟨g1, g2, g3, g4⟩ := o1 φ q
          exact ⟨g1, g2, by rw [upd_ne (nf φ q)]; exact g3, g4⟩
      refine lc_it wk (fun i H' => ∃ F' acc s' zs, CSt X fa F1 H1 D' F' H' acc s' ∧ lcE b c f (xs.drop i) ρ s' = .ok zs s9 ∧ acc ++ zs = ys ∧ acc.length ≤ i) ⟨F1, [], s0, ys, C0, hys, rfl, Nat.zero_le _⟩ ?_ ?_ ?_
      · rintro i H' _ ⟨F', acc, s', zs, C, _⟩
        exact hG F' H' C.ext.ff C.ext.fh
      · rintro i x H' H3 hi ⟨F', acc, s', zs, C, hz, ha, hlen⟩ y
        have hx : xs[i]? = some xs[i] := List.getElem?_eq_getElem hi
        obtain ⟨F3, a1, a2, a3, a4, r⟩ := hY i _ F' H' x H3 hx C.ext.ff C.ext.fh y
        have C3 := C.step (ext_same a1 a2 a3 a4) (C.fd.ext_same a1 a3 a4)
        rw [List.drop_eq_getElem_cons hi] at hz
        change ((M.lift (b xs[i]) s').bnd _) = _ at hz
        obtain ⟨as, s1, hb0, hz1⟩ := bnd_ok hz
        obtain ⟨hb, es1⟩ := lift_ok hb0
        rw [es1] at hz1
        change ((c (setE as ρ) s').bnd _) = _ at hz1
        obtain ⟨k, s2, hc, hz2⟩ := bnd_ok hz1
        refine lc_turn C3 (h3.mono (e1.ff.trans (C.ext.ff.trans a1))) r hb hc hin hni fun σ2 F4 H4 C4 e34 en2 en hw => ?_
        cases k with
        | false =>
          refine iteF ⟨F4, acc, s2, zs, C4, ?_, ha, by omega⟩
          rw [if_neg Bool.false_ne_true] at hz2
          exact hz2
        | true =>
          rw [if_pos rfl] at hz2
          change ((f (setE as ρ) s2).bnd _) = _ at hz2
          obtain ⟨y', s3, hf, hz3⟩ := bnd_ok hz2
          change ((lcE b c f (xs.drop (i + 1)) ρ s3).bnd _) = _ at hz3
          obtain ⟨zs', s4, hz4, hq⟩ := bnd_ok hz3
          cases hq
          refine iteT ⟨F4, setE as ρ, s2, C4.ext.fh, C4.fd, en2, ?_⟩
          rw [hf]
          intro w F5 H5 e5 o5 r5
          have C5 := C4.step e5 o5
          obtain ⟨av, hD5, rl⟩ := id C5.at_
          refine ⟨av, hD5, by rw [← rl.length]; omega, F5, acc ++ [y'], s3, zs', C5.add hD5 r5, hz4, by rw [List.append_assoc]; exact ha, by simp; omega⟩
      · rintro H' ⟨F', acc, s', zs, C, hz, ha, hlen⟩
        rw [List.drop_length] at hz
        cases hz
        rw [List.append_nil] at ha
        subst ha
        obtain ⟨av, hD', rl⟩ := C.at_
        refine hg D' av F' H' (e1.trans C.ext) C.fd ?_ C.fD hD' rl
        cases z : H D' with
        | none => rfl
        | some u => exact absurd hD (e1.al D' (by rw [z]; simp))
    · rw [if_neg hl] at hg
      exact hg.elim

/-- the dict at slot i stands locked -/
def LockAt (i : Nat) (F : Hp) (σ : L2.St) : Prop := ∃ d o vs, σ[i]? = some (some (.ref d)) ∧ F d = some (.frz o (.dK vs))
def keyV : Key → D
  | .inl i => .int i
  | .inr x => .str x
def keysD (i : Nat) : Env' → M (List D) := fun ρ => match ρ[i]?.join with
  | some (.dic kvs) => M.pure (kvs.map fun kv => keyV kv.1)
  | _ => M.bad
theorem repK_get {K : PySem.W.Frag} {F : Hp} : ∀ {ds : List (Key × D)} {vs : List (Key × V)} {i : Nat} {k : Key} {v : V}, RepK K fa F ds vs → vs[i]? = some (k, v) → ∃ d, ds[i]? = some (k, d) ∧ Rep K fa F d v
  | _, _, i, _, _, .nil, h => by simp at h
  | _, _, 0, _, _, .cons r _, h => by simp at h; obtain ⟨rfl, rfl⟩ := h; exact ⟨_, rfl, r⟩
  | _, _, i + 1, k, v, .cons _ t, h => by
    obtain ⟨d, e, r⟩ := repK_get (i := i) t (by simpa using h)
    exact ⟨d, by simpa using e, r⟩
theorem repK_len {K : PySem.W.Frag} {F : Hp} : ∀ {ds : List (Key × D)} {vs : List (Key × V)}, RepK K fa F ds vs → ds.length = vs.length
  | _, _, .nil => rfl
  | _, _, .cons _ t => congrArg (· + 1) (repK_len t)
theorem iok_keys {i : Nat} : IOkP (LockAt i) X fa Wσ (iKeys (tVar i)) (keysD i) := by
  intro σ F H ρ s R hp h1 h2 h3 hg
  obtain ⟨d, o, vs, hσ, hF⟩ := hp
  refine ⟨.ref d, hσ, d, o, rfl, .inl ⟨vs, h1 _ _ hF, ?_⟩⟩
  unfold keysD at hg
  cases q : ρ[i]?.join with
  | none => rw [q] at hg; exact hg.elim
  | some x =>
    rw [q] at hg
    obtain ⟨v, hv, r⟩ := h3.at_ i x (by
      cases z : ρ[i]? with
      | none => rw [z] at q; cases q
      | some u => rw [z] at q; cases u with
        | none => cases q
        | some y => cases q; rfl)
    rw [hσ] at hv
    cases hv
    cases r with
    | @dic _ xs vs' hd rk =>
      have e : vs' = vs := by
        rcases hd with hd | ⟨o', hd⟩
        · rw [hF] at hd; cases hd
        · rw [hF] at hd; cases hd; rfl
      subst e
      refine hg _ F H (Ext.refl h1) h2 (wj_here (G := fun H => H d = some (.frz o (.dK vs'))) (Y := fun i H x H' => H' = H ∧ ∃ k v, vs'[i]? = some (k, v) ∧ x = kV k) ?_ ?_ ?_)
      · rw [List.length_map, repK_len rk]
        exact walk_keys
      · exact fun F2 H2 a1 a2 => a2 _ _ (a1 _ _ hF)
      · rintro j x F2 H2 v H3 hx a1 a2 ⟨rfl, k, w, hk, rfl⟩
        refine ⟨rfl, ?_⟩
        obtain ⟨dd, hd2, _⟩ := repK_get rk hk
        rw [List.getElem?_map, hd2] at hx
        cases hx
        cases k with
        | inl n => exact .int n
        | inr n => exact .str n
    | _ => exact hg.elim
/-- the same data, another floor -/
structure Swap (K : PySem.W.Frag) (F F' : Hp) : Prop where
  lst : ∀ a xs, F a = some (.lst xs) → F' a = some (.lst xs)
  ins : ∀ a C dx vs, F a = some (.ins C dx vs) → F' a = some (.ins C dx vs)
  tup : ∀ a xs, SqT K F a xs → SqT K F' a xs
  sql : ∀ a xs, SqL K F a xs → SqL K F' a xs
  dic : ∀ a vs, Rd F a (.dK vs) → Rd F' a (.dK vs)
mutual
theorem Swap.rep {K : PySem.W.Frag} {F F' : Hp} (e : Swap K F F') : ∀ {d : D} {v : V}, Rep K fa F d v → Rep K fa F' d v
  | _, _, .non => .non
  | _, _, .bl b => .bl b
  | _, _, .int i => .int i
  | _, _, .str x => .str x
  | _, _, .feed a h => .feed a h
  | _, _, .opq v => .opq v
  | _, _, .scr h => .scr (e.sql _ _ h)
  | _, _, .tup h r => .tup (e.tup _ _ h) (Swap.repL e r)
  | _, _, .lst h r => .lst (e.lst _ _ h) (Swap.repL e r)
  | _, _, .dic h r => .dic (e.dic _ _ h) (Swap.repK e r)
  | _, _, .ins h c r => .ins (e.ins _ _ _ _ h) c (Swap.repF e r)
theorem Swap.repF {K : PySem.W.Frag} {F F' : Hp} (e : Swap K F F') : ∀ {ds : List (Str × D)} {vs : List (Str × V)}, RepF K fa F ds vs → RepF K fa F' ds vs
  | _, _, .nil => .nil
  | _, _, .cons r t => .cons (Swap.rep e r) (Swap.repF e t)
theorem Swap.repL {K : PySem.W.Frag} {F F' : Hp} (e : Swap K F F') : ∀ {ds : List D} {vs : List V}, RepL K fa F ds vs → RepL K fa F' ds vs
  | _, _, .nil => .nil
  | _, _, .cons r t => .cons (Swap.rep e r) (Swap.repL e t)
theorem Swap.repK {K : PySem.W.Frag} {F F' : Hp} (e : Swap K F F') : ∀ {ds : List (Key × D)} {vs : List (Key × V)}, RepK K fa F ds vs → RepK K fa F' ds vs
  | _, _, .nil => .nil
  | _, _, .cons r t => .cons (Swap.rep e r) (Swap.repK e t)
end
theorem swap_lock {K : PySem.W.Frag} {F : Hp} {d : Addr} {vs : List (Key × V)} {o : Obj} (h : F d = some (.dK vs)) : Swap K F (upd F d (.frz o (.dK vs))) := by
  refine ⟨fun a xs e => ?_, fun a C dx us e => ?_, fun a xs e => ?_, fun a xs e => ?_, fun a us e => ?_⟩
  · by_cases z : a = d
    · subst z; rw [h] at e; cases e
    · rw [upd_ne z]; exact e
  · by_cases z : a = d
    · subst z; rw [h] at e; cases e
    · rw [upd_ne z]; exact e
  · rcases e with (e | ⟨o', e⟩) | e
    · by_cases z : a = d
      · subst z; rw [h] at e; cases e
      · exact .inl (.inl (by rw [upd_ne z]; exact e))
    · by_cases z : a = d
      · subst z; rw [h] at e; cases e
      · exact .inl (.inr ⟨o', by rw [upd_ne z]; exact e⟩)
    · exact .inr e
  · rcases e with (e | ⟨o', e⟩) | e
    · by_cases z : a = d
      · subst z; rw [h] at e; cases e
      · exact .inl (.inl (by rw [upd_ne z]; exact e))
    · by_cases z : a = d
      · subst z; rw [h] at e; cases e
      · exact .inl (.inr ⟨o', by rw [upd_ne z]; exact e⟩)
    · exact .inr e
  · by_cases z : a = d
    · subst z
      rcases e with e | ⟨o', e⟩
      · rw [h] at e; cases e; exact .inr ⟨o, upd_same⟩
      · rw [h] at e; cases e
    · rcases e with e | ⟨o', e⟩
      · exact .inl (by rw [upd_ne z]; exact e)
      · exact .inr ⟨o', by rw [upd_ne z]; exact e⟩
theorem swap_unlock {K : PySem.W.Frag} {F : Hp} {d : Addr} {vs : List (Key × V)} {o : Obj} (h : F d = some (.frz o (.dK vs))) : Swap K F (upd F d (.dK vs)) := by
  refine ⟨fun a xs e => ?_, fun a C dx us e => ?_, fun a xs e => ?_, fun a xs e => ?_, fun a us e => ?_⟩
  · by_cases z : a = d
    · subst z; rw [h] at e; cases e
    · rw [upd_ne z]; exact e
  · by_cases z : a = d
    · subst z; rw [h] at e; cases e
    · rw [upd_ne z]; exact e
  · rcases e with (e | ⟨o', e⟩) | e
    · by_cases z : a = d
      · subst z; rw [h] at e; cases e
      · exact .inl (.inl (by rw [upd_ne z]; exact e))
    · by_cases z : a = d
      · subst z; rw [h] at e; cases e
      · exact .inl (.inr ⟨o', by rw [upd_ne z]; exact e⟩)
    · exact .inr e
  · rcases e with (e | ⟨o', e⟩) | e
    · by_cases z : a = d
      · subst z; rw [h] at e; cases e
      · exact .inl (.inl (by rw [upd_ne z]; exact e))
    · by_cases z : a = d
      · subst z; rw [h] at e; cases e
      · exact .inl (.inr ⟨o', by rw [upd_ne z]; exact e⟩)
    · exact .inr e
  · by_cases z : a = d
    · subst z
      rcases e with e | ⟨o', e⟩
      · rw [h] at e; cases e
      · rw [h] at e; cases e; exact .inl upd_same
    · rcases e with e | ⟨o', e⟩
      · exact .inl (by rw [upd_ne z]; exact e)
      · exact .inr ⟨o', by rw [upd_ne z]; exact e⟩
theorem pe_or {e : Expr} {t t' : TE} (h : PE X e t) (h' : PE X e t') : PE X e (fun σ H Q => t σ H Q ∨ t' σ H Q) :=
  ⟨fun pins s σ H Q I q => q.elim (h.run pins s σ H Q I) (h'.run pins s σ H Q I)⟩
theorem same_upd2 {F H : Hp} {d : Addr} {u : HO} (h : Same F H) : Same (upd F d u) (upd H d u) := fun b o e => by
  by_cases z : b = d
  · subst z; rw [upd_same] at e ⊢; exact e
  · rw [upd_ne z] at e ⊢; exact h b o e
theorem feed_upd {K : PySem.W.Frag} {F H : Hp} {s : FS} {d : Addr} {u u' : HO} (h : FeedOk K fa F H s) (hd : F d = some u') (hu : ∀ xs, u' ≠ .lst xs) : FeedOk K fa (upd F d u) (upd H d u) s := fun φ e => by
  obtain ⟨a1, a2, a3, a4⟩ := h φ e
  have n1 : φ.a ≠ d := fun z => by rw [z, hd] at a1; cases a1
  have n2 : φ.c ≠ d := fun z => by rw [z, hd] at a4; cases a4; exact hu _ rfl
  exact ⟨by rw [upd_ne n1]; exact a1, a2, by rw [upd_ne n1]; exact a3, by rw [upd_ne n2]; exact a4⟩
/-- a computation of a new list, over a locked dict, at a dict that is locked for it -/
theorem nok_lock {i : Nat} {t : TE} {f : Env' → M (List D)} (k : NOkP (LockAt i) X fa Wσ t f) (hf : ∀ ρ s, (∃ kvs, ρ[i]?.join = some (.dic kvs)) ∨ f ρ s = .bad) (hq : ∀ ρ s e s', f ρ s ≠ .err e s') : NOk X fa Wσ (fun σ H Q => t σ H Q ∨ tLockE t σ H Q) f := by
  intro σ F H ρ s Q h1 h2 h3 hg
  rcases hf ρ s with ⟨kvs, hk⟩ | hb
  · obtain ⟨v, hv, r⟩ := h3.at_ i (.dic kvs) (by
      cases z : ρ[i]? with
      | none => rw [z] at hk; cases hk
      | some u => rw [z] at hk; cases u with
        | none => cases hk
        | some y => cases hk; rfl)
    cases r with
    | @dic d _ vs hd rk =>
      rcases hd with hd | ⟨o, hd⟩
      · refine .inr ⟨d, .dK vs, h1 _ _ hd, True.intro, fun od => ?_⟩
        have sw := swap_lock (K := X.K) (o := od) hd
        refine k σ (upd F d (.frz od (.dK vs))) (upd H d (.frz od (.dK vs))) ρ s _ ⟨d, od, vs, hv, upd_same⟩ (same_upd2 h1) (feed_upd h2 hd (by intro _ z; cases z)) ⟨h3.len, fun j x hx => ?_⟩ ?_
        · obtain ⟨w, a1, a2⟩ := h3.at_ j x hx
          exact ⟨w, a1, sw.rep a2⟩
        · cases q : f ρ s with
          | bad => rw [q] at hg; exact hg.elim
          | err e s' => exact absurd q (hq _ _ _ _)
          | ok xs s' =>
            rw [q] at hg
            intro p us F2 H2 e2 o2 n1 n2 n3 r2
            have f2 : F2 d = some (.frz od (.dK vs)) := e2.ff _ _ upd_same
            have g2 : H2 d = some (.frz od (.dK vs)) := e2.fh _ _ f2
            have hpd : p ≠ d := fun z => by rw [z] at n2; rw [f2] at n2; cases n2
            refine ⟨g2, hg p us (upd F2 d (.dK vs)) (upd H2 d (.dK vs)) ⟨fun b u e => ?_, same_upd2 e2.fh, fun b u e nf => ?_, fun b e => ?_, fun b e => ?_⟩ (feed_upd o2 f2 (by intro _ z; cases z)) ?_ ?_ ?_ ((swap_unlock f2).repL r2)⟩
            · by_cases z : b = d
              · subst z; rw [upd_same]; rw [hd] at e; exact e
              · rw [upd_ne z]; exact e2.ff _ _ (by rw [upd_ne z]; exact e)
            · by_cases z : b = d
              · subst z; rw [upd_same]; rw [h1 _ _ hd] at e; exact e
              · rw [upd_ne z]; exact e2.hh _ _ (by rw [upd_ne z]; exact e) nf
            · by_cases z : b = d
              · subst z; rw [upd_same, hd]
              · rw [upd_ne z, e2.fr b (by rw [upd_ne z]; exact e), upd_ne z]
            · by_cases z : b = d
              · subst z; rw [upd_same]; simp
              · rw [upd_ne z]; exact e2.al b (by rw [upd_ne z]; exact e)
            · rw [upd_ne hpd] at n1; exact n1
            · rw [upd_ne hpd]; exact n2
            · rw [upd_ne hpd]; exact n3
      · exact .inl (k σ F H ρ s Q ⟨d, o, vs, hv, hd⟩ h1 h2 h3 hg)
  · rw [hb] at hg
    exact hg.elim
theorem lc_quiet {it : Env' → M (List D)} {b : D → Option Asg} {c : Env' → M Bool} {f : Env' → M D} (hi : ∀ ρ s e s', it ρ s ≠ .err e s') (ρ : Env') (s : FS) (e : Exc) (s' : FS) : dLc it b c f ρ s ≠ .err e s' := by
  intro h
  change ((it ρ s).bnd _) = _ at h
  cases q : it ρ s with
  | bad => rw [q] at h; cases h
  | err e2 s2 => exact hi _ _ _ _ q
  | ok xs s2 =>
    rw [q] at h
    change (if xs.length ≤ sizeLine then M.quiet (lcE b c f xs ρ) else M.bad) s2 = _ at h
    split at h
    · unfold M.quiet at h
      split at h
      · cases h
      · rename_i hn
        exact hn _ _ h
    · cases h
theorem keys_calm (i : Nat) (ρ : Env') (s : FS) (e : Exc) (s' : FS) : keysD i ρ s ≠ .err e s' := by
  intro h
  unfold keysD at h
  cases q : ρ[i]?.join with
  | none => rw [q] at h; cases h
  | some x => rw [q] at h; cases x <;> cases h
theorem keys_bad (i : Nat) (b : D → Option Asg) (c : Env' → M Bool) (f : Env' → M D) (ρ : Env') (s : FS) : (∃ kvs, ρ[i]?.join = some (.dic kvs)) ∨ dLc (keysD i) b c f ρ s = .bad := by
  cases q : ρ[i]?.join with
  | none => exact .inr (by show ((keysD i ρ s).bnd _) = _; unfold keysD; rw [q]; rfl)
  | some x => cases x with
    | dic kvs => exact .inl ⟨kvs, rfl⟩
    | _ => exact .inr (by show ((keysD i ρ s).bnd _) = _; unfold keysD; rw [q]; rfl)
/-- [elt for k in d if ..], d a name of a dict -/
theorem nd_lcKeys {tg elt : Expr} {ifs : List Expr} {scope : Scope} {own : List (Str × Nat)} {pos vp : Pos} {x : Str} {i : Nat} {b : D → Option Asg} {c : Env' → M Bool} {f : Env' → M D} {ns : List Nat} (hc : X.calm = true) (hN : X.N.Nodup) (hi : PE X (.Name x vp) (tVar i)) (ok : BlkOk X.N X.env.scope scope own)
    (hin : ∀ n ∈ ns, n ∈ own.map (·.2)) (hni : ∀ n ∈ own.map (·.2), n ∈ ns)
    (hg : ∀ (s : Shared) (H : Hp) (C : Addr) (cl : List (Str × Addr)) (fp : List Addr), TJ (X.blk s H scope (compEnvC scope cl C X.env) fp) tg ns b) (ht : ∀ (s : Shared) (H : Hp) (C : Addr) (cl : List (Str × Addr)) (fp : List Addr), PTsD (X.blk s H scope (compEnvC scope cl C X.env) fp) fa Wno ifs c)
    (he : ∀ (s : Shared) (H : Hp) (C : Addr) (cl : List (Str × Addr)) (fp : List Addr), ED (X.blk s H scope (compEnvC scope cl C X.env) fp) fa Wno elt f) (hs : ∀ y, foldedSetIterable (.Name x vp) X.env y = pure y := by intro _; rfl) :
    ND X fa Wσ (.ListComp elt [⟨tg, .Name x vp, ifs, 0⟩] scope pos) (dLc (keysD i) b c f) := by
  have p : PE X (.ListComp elt [⟨tg, .Name x vp, ifs, 0⟩] scope pos) (tLc (iKeys (tVar i)) (gStar X ns b) (tStarB X fa Wno c) (tStar X fa Wno f) (own.map (·.2))) := pe_lc hc hN (pi_keys hi) ok (fun s H C cl fp => (hg s H C cl fp).star) (tt := tStarB X fa Wno c) (fun s H C cl fp => (ht s H C cl fp).star) (fun s H C cl fp => (he s H C cl fp).star) hs
  exact ⟨_, pe_or p (pe_lock p), nok_lock (nok_lcP (tg := tg) (iter := .Name x vp) (elt := elt) iok_keys hin hni) (keys_bad i b c f) (lc_quiet (keys_calm i))⟩
/-! ### dict(x) -/
def dictD : List D → Option D
  | [.dic xs] => some (.dic xs)
  | _ => none
theorem ok_dict : CallOk X fa (fun xs H Q => ∃ (a : Addr) (kvs : List (Key × V)), xs = [.ref a] ∧ Rd H a (.dK kvs) ∧ ∀ p, H p = none → Q (.ref p) (upd H p (.dK kvs))) dictD := by
  intro F H s xs as Q h1 h2 r h
  cases r with
  | nil => exact h.elim
  | cons r t =>
    cases t with
    | cons _ _ => cases r <;> exact h.elim
    | nil =>
      cases r with
      | dic hq r => exact ⟨_, _, rfl, same_rd h1 hq, fun p hp => GoodO.new h1 h2 hp (.dic (.inl upd_same) (r.mono (Ext.new (fa := fa) h1 hp).ff)) h⟩
      | _ => exact h.elim
end
end DL

set_option Elab.async false
set_option linter.all false
set_option maxRecDepth 100000
set_option maxHeartbeats 2000000
/-! zip over two lists, when the tuples are kept: behind the first turn its own tuple is alive. -/
namespace ZK
open PySem PySem.Spec PyProof.Rows
/-- a zip whose own tuple T0 was handed out -/
def IsZipO (h : Heap) (z TI TO T0 : Addr) (fl : Bool) : Prop :=
  h.get? z = some { cls := .type "zip", dict := none, data := .fields #[rawInt T0, .bool fl, .bool false, .ref TI, .ref TO], slots := #[] }
section
variable {prog : Program} {w : World} {A : Around} {E : Value → Shared → Prop} {s : Shared}
theorem wpAny_alive {M : Model} {a : Addr} {Q : Option Obj → Shared → Prop} (h : Q (s.heap.get? a) s) : wpAny M A (loadIfAlive a) Q E s := fun _ _ _ => h
theorem notFree {z TI TO T0 : Addr} {fl : Bool} {o0 : Obj} {Q : Bool → Shared → Prop} (hz : IsZipO s.heap z TI TO T0 fl) (h0 : s.heap.get? T0 = some o0)
    (hQ : ∀ h' fl', IsZipO h' z TI TO T0 fl' → Heap.SameBut z s.heap h' → Q false { s with heap := h' }) : wpAny (model prog w) A (Builtin.SmallTypes.ownedTupleIsFree (.ref z)) Q E s := by
  unfold Builtin.SmallTypes.ownedTupleIsFree
  refine wpAny_bind (wpAny_field hz rfl (x := rawInt T0) rfl ?_)
  show wpAny _ _ (loadIfAlive ((T0 : Int).toNat) >>= _) _ _ _
  refine wpAny_bind (wpAny_alive ?_)
  rw [Int.toNat_natCast, h0]
  show wpAny _ _ (field (.ref z) 1 >>= _) _ _ _
  refine wpAny_bind (wpAny_field hz rfl (x := .bool fl) rfl ?_)
  cases fl with
  | true =>
    refine wpAny_bind (wpAny_pure (wpAny_pure ?_))
    exact hQ s.heap true hz (Heap.SameBut.refl _ _)
  | false =>
    refine wpAny_bind ?_
    refine wpAny_setField_rec hz (by simp) fun h' hz' hs' => wpAny_pure ?_
    exact hQ h' true hz' hs'
theorem zipO_item {z TI TO T0 i1 i2 l1 l2 : Addr} {fl : Bool} {o0 : Obj} {k1 k2 : Nat} {xs ys : Array Value} {x y : Value} {Q : Value → Shared → Prop} (D : ZipApart z TI TO i1 i2 l1 l2)
    (hz : IsZipO s.heap z TI TO T0 fl) (h0 : s.heap.get? T0 = some o0) (hTI : IsPair s.heap TI (.ref i1) (.ref i2))
    (h1 : s.heap.IsListIter i1 l1 k1) (h2 : s.heap.IsListIter i2 l2 k2) (hl1 : s.heap.IsList l1 xs) (hl2 : s.heap.IsList l2 ys) (hx : xs[k1]? = some x) (hy : ys[k2]? = some y)
    (hQ : ∀ h' fl', IsZipO h' z TI TO T0 fl' → h'.IsListIter i1 l1 (k1 + 1) → h'.IsListIter i2 l2 (k2 + 1) → IsPair h' s.heap.objs.size x y → h'.objs.size = s.heap.objs.size + 1 →
      (∀ c o, c ≠ z → c ≠ i1 → c ≠ i2 → s.heap.get? c = some o → h'.get? c = some o) → Q (.ref s.heap.objs.size) { s with heap := h' }) :
    wpAny (model prog w) A (Builtin.«zip.__next__» ⟨[.ref z], []⟩) (fun fin s' => ∃ v, fin = .done (.ret v) ∧ Q v s') E s := by
  show wpAny _ _ (field (.ref z) 2 >>= _) _ _ _
  refine wpAny_bind (wpAny_field hz rfl (x := .bool false) rfl ?_)
  show wpAny _ _ (field (.ref z) 3 >>= _) _ _ _
  refine wpAny_bind (wpAny_field hz rfl (x := .ref TI) rfl ?_)
  refine wpAny_bind (wpAny_seqItems hTI rfl ?_)
  show wpAny _ _ (Builtin.SmallTypes.ownedTupleIsFree (.ref z) >>= _) _ _ _
  refine wpAny_bind (notFree hz h0 fun g0 fl' hz0 hs0 => ?_)
  simp only [Bool.false_eq_true, if_false]
  refine wpAny_bind ?_
  simp only [List.forIn_toArray, List.forIn_cons, List.forIn_nil]
  refine wpAny_bind (wpAny_bind (wpAny_holding ?_))
  show wpAny _ _ (Builtin.SmallTypes.nextOf (.ref i1) >>= _) _ _ _
  refine wpAny_bind (wpAny_nextOf_list_item (h1.extBut hs0.extBut D.i1z) (hl1.extBut hs0.extBut D.l1z) hx fun g1 h11 hs1 => wpAny_pure ?_)
  refine wpAny_pure ?_
  refine wpAny_bind (wpAny_bind (wpAny_holding ?_))
  show wpAny _ _ (Builtin.SmallTypes.nextOf (.ref i2) >>= _) _ _ _
  refine wpAny_bind (wpAny_nextOf_list_item ((h2.extBut hs0.extBut D.i2z).extBut hs1.extBut D.i12.symm) ((hl2.extBut hs0.extBut D.l2z).extBut hs1.extBut D.l2i1) hy fun g2 h22 hs2 => wpAny_pure ?_)
  refine wpAny_pure (wpAny_pure ?_)
  refine wpAny_bind (wpAny_newTuple (hsz := by show 2 ≤ sizeLine; decide) ?_)
  have hsz : g2.objs.size = s.heap.objs.size := by rw [hs2.1, hs1.1, hs0.1]
  have hz2 : IsZipO g2 z TI TO T0 fl' := hs2.extBut _ _ D.i2z.symm (hs1.extBut _ _ D.i1z.symm hz0)
  have hk2 : ∀ c o, c ≠ z → c ≠ i1 → c ≠ i2 → s.heap.get? c = some o → g2.get? c = some o := fun c o c1 c3 c4 e => hs2.extBut _ _ c4 (hs1.extBut _ _ c3 (hs0.extBut _ _ c1 e))
  refine wpAny_pure ⟨_, rfl, ?_⟩
  show Q (.ref g2.objs.size) _
  have key := hQ (g2.push { cls := .type "tuple", data := .seq #[x, y] }) fl' (Heap.get?_push_of_some _ hz2) ((h11.extBut hs2.extBut D.i12).at fun o e => Heap.get?_push_of_some _ e) (h22.at fun o e => Heap.get?_push_of_some _ e) ?_ ?_ (fun c o c1 c3 c4 e => Heap.get?_push_of_some _ (hk2 c o c1 c3 c4 e))
  · rw [hsz]
    exact key
  · rw [← hsz]
    exact Heap.get?_push_size _ rfl
  · rw [Heap.size_push, hsz]
theorem zipO_end {z TI TO T0 i1 i2 l1 l2 : Addr} {fl : Bool} {o0 : Obj} {k1 k2 : Nat} {xs ys : Array Value} {Q : Fin → Shared → Prop} (hh : A.handled = none) (D : ZipApart z TI TO i1 i2 l1 l2)
    (hz : IsZipO s.heap z TI TO T0 fl) (h0 : s.heap.get? T0 = some o0) (hTI : IsPair s.heap TI (.ref i1) (.ref i2))
    (h1 : s.heap.IsListIter i1 l1 k1) (h2 : s.heap.IsListIter i2 l2 k2) (hl1 : s.heap.IsList l1 xs) (hl2 : s.heap.IsList l2 ys) (hend : xs[k1]? = none ∨ ys[k2]? = none)
    (hE : ∀ h' e, (∀ c o, c ≠ z → c ≠ i1 → c ≠ i2 → s.heap.get? c = some o → h'.get? c = some o) → (∃ o, h'.get? e = some o ∧ o.cls = .type "StopIteration") → E (.ref e) { s with heap := h' }) :
    wpAny (model prog w) A (Builtin.«zip.__next__» ⟨[.ref z], []⟩) Q E s := by
  show wpAny _ _ (field (.ref z) 2 >>= _) _ _ _
  refine wpAny_bind (wpAny_field hz rfl (x := .bool false) rfl ?_)
  show wpAny _ _ (field (.ref z) 3 >>= _) _ _ _
  refine wpAny_bind (wpAny_field hz rfl (x := .ref TI) rfl ?_)
  refine wpAny_bind (wpAny_seqItems hTI rfl ?_)
  show wpAny _ _ (Builtin.SmallTypes.ownedTupleIsFree (.ref z) >>= _) _ _ _
  refine wpAny_bind (notFree hz h0 fun g0 fl' hz0 hs0 => ?_)
  simp only [Bool.false_eq_true, if_false]
  refine wpAny_bind ?_
  simp only [List.forIn_toArray, List.forIn_cons, List.forIn_nil]
  refine wpAny_bind (wpAny_bind (wpAny_holding ?_))
  show wpAny _ _ (Builtin.SmallTypes.nextOf (.ref i1) >>= _) _ _ _
  cases qx : xs[k1]? with
  | none =>
    refine wpAny_bind (wpAny_nextOf_list_end hh (h1.extBut hs0.extBut D.i1z) (hl1.extBut hs0.extBut D.l1z) qx fun h' e he ho => ?_)
    exact hE h' e (fun c o c1 c3 c4 z => he _ _ c3 (hs0.extBut _ _ c1 z)) ho
  | some x =>
    have hy : ys[k2]? = none := by
      rcases hend with h | h
      · rw [qx] at h; cases h
      · exact h
    refine wpAny_bind (wpAny_nextOf_list_item (h1.extBut hs0.extBut D.i1z) (hl1.extBut hs0.extBut D.l1z) qx fun g1 h11 hs1 => wpAny_pure ?_)
    refine wpAny_pure ?_
    refine wpAny_bind (wpAny_bind (wpAny_holding ?_))
    show wpAny _ _ (Builtin.SmallTypes.nextOf (.ref i2) >>= _) _ _ _
    refine wpAny_bind (wpAny_nextOf_list_end hh ((h2.extBut hs0.extBut D.i2z).extBut hs1.extBut D.i12.symm) ((hl2.extBut hs0.extBut D.l2z).extBut hs1.extBut D.l2i1) hy fun h' e he ho => ?_)
    exact hE h' e (fun c o c1 c3 c4 z => he _ _ c4 (hs1.extBut _ _ c3 (hs0.extBut _ _ c1 z))) ho
theorem nextO_item {z TI TO T0 i1 i2 l1 l2 : Addr} {fl : Bool} {o0 : Obj} {k1 k2 : Nat} {xs ys : Array Value} {x y : Value} {Q : Option Value → Shared → Prop} (D : ZipApart z TI TO i1 i2 l1 l2)
    (hz : IsZipO s.heap z TI TO T0 fl) (h0 : s.heap.get? T0 = some o0) (hTI : IsPair s.heap TI (.ref i1) (.ref i2))
    (h1 : s.heap.IsListIter i1 l1 k1) (h2 : s.heap.IsListIter i2 l2 k2) (hl1 : s.heap.IsList l1 xs) (hl2 : s.heap.IsList l2 ys) (hx : xs[k1]? = some x) (hy : ys[k2]? = some y)
    (hQ : ∀ h' fl', IsZipO h' z TI TO T0 fl' → h'.IsListIter i1 l1 (k1 + 1) → h'.IsListIter i2 l2 (k2 + 1) → IsPair h' s.heap.objs.size x y → h'.objs.size = s.heap.objs.size + 1 →
      (∀ c o, c ≠ z → c ≠ i1 → c ≠ i2 → s.heap.get? c = some o → h'.get? c = some o) → Q (some (.ref s.heap.objs.size)) { s with heap := h' }) :
    wpAny (model prog w) A (pyNext (.ref z)) Q E s := by
  have hT : s.TypeIs (.ref z) "zip" := ⟨_, hz, rfl⟩
  unfold pyNext
  exact wpAny_bind (wpAny_attempt (wpAny_callSpecial?_slot (name := Str.ofString "__next__") hT F.slot_zip_next
    (wpAny_call_entry F.slot_zip_next hT F.entry_zip_next
      (zipO_item D hz h0 hTI h1 h2 hl1 hl2 hx hy fun h' fl' a1 a3 a4 a5 a6 a7 => wpAny_pure (hQ h' fl' a1 a3 a4 a5 a6 a7)) (F.args_zip_next_1 _))))
theorem nextO_end {z TI TO T0 i1 i2 l1 l2 : Addr} {fl : Bool} {o0 : Obj} {k1 k2 : Nat} {xs ys : Array Value} {Q : Option Value → Shared → Prop} (hh : A.handled = none) (D : ZipApart z TI TO i1 i2 l1 l2)
    (hz : IsZipO s.heap z TI TO T0 fl) (h0 : s.heap.get? T0 = some o0) (hTI : IsPair s.heap TI (.ref i1) (.ref i2))
    (h1 : s.heap.IsListIter i1 l1 k1) (h2 : s.heap.IsListIter i2 l2 k2) (hl1 : s.heap.IsList l1 xs) (hl2 : s.heap.IsList l2 ys) (hend : xs[k1]? = none ∨ ys[k2]? = none)
    (hQ : ∀ h', (∀ c o, c ≠ z → c ≠ i1 → c ≠ i2 → s.heap.get? c = some o → h'.get? c = some o) → Q none { s with heap := h' }) : wpAny (model prog w) A (pyNext (.ref z)) Q E s := by
  have hT : s.TypeIs (.ref z) "zip" := ⟨_, hz, rfl⟩
  unfold pyNext
  refine wpAny_bind (wpAny_attempt (wpAny_callSpecial?_slot (name := Str.ofString "__next__") hT F.slot_zip_next
    (wpAny_call_entry F.slot_zip_next hT F.entry_zip_next (zipO_end hh D hz h0 hTI h1 h2 hl1 hl2 hend fun h' e hk he => ?_) (F.args_zip_next_1 _))))
  obtain ⟨o, ho, hc⟩ := he
  refine wpAny_bind (wpAny_isInstance (T := "StopIteration") (b := true) ⟨o, ho, hc⟩ isSubtype_stop ?_)
  exact wpAny_pure (hQ _ hk)
end
end ZK

set_option Elab.async false
set_option linter.all false
set_option maxRecDepth 100000
set_option maxHeartbeats 2000000
/-! list over a zip of two lists. -/
namespace ZK
open PySem PySem.Spec PyProof.Rows
/-- the items so far: new pairs, made behind S -/
def PairsAt (S : Addr) (h : Heap) (xs ys : Array Value) (acc : Array Value) (i : Nat) : Prop :=
  acc.size = i ∧ (∀ (j : Nat) v, acc[j]? = some v → ∃ T x y, v = .ref T ∧ S < T ∧ IsPair h T x y ∧ xs[j]? = some x ∧ ys[j]? = some y) ∧ ∀ (j k : Nat) v, acc[j]? = some v → acc[k]? = some v → j = k
structure ZS (h : Heap) (z TI TO i1 i2 l1 l2 : Addr) (xs ys : Array Value) (i : Nat) : Prop where
  ti : IsPair h TI (.ref i1) (.ref i2)
  h1 : h.IsListIter i1 l1 i
  h2 : h.IsListIter i2 l2 i
  hl1 : h.IsList l1 xs
  hl2 : h.IsList l2 ys
  zz : (i = 0 ∧ IsZip h z TI TO .none ∧ ∃ a b, IsPair h TO a b) ∨ ∃ T0 fl x y, IsZipO h z TI TO T0 fl ∧ IsPair h T0 x y
section
variable {prog : Program} {w : World} {A : Around} {R : Result → Shared → Prop} {z TI TO i1 i2 l1 l2 S : Addr} {xs ys : Array Value}
theorem pairs_keep {h h' : Heap} {acc : Array Value} {i : Nat} (P : PairsAt S h xs ys acc i) (k : ∀ T x y, IsPair h T x y → IsPair h' T x y) : PairsAt S h' xs ys acc i :=
  ⟨P.1, fun j v e => by
    obtain ⟨T, x, y, e1, e0, e2, e3, e4⟩ := P.2.1 j v e
    exact ⟨T, x, y, e1, e0, k T x y e2, e3, e4⟩, P.2.2⟩
theorem pairs_push {h : Heap} {acc : Array Value} {i : Nat} {T : Addr} {x y : Value} (P : PairsAt S h xs ys acc i) (hT : S < T) (lt : ∀ (j : Nat) T', acc[j]? = some (.ref T') → T' < T) (e : IsPair h T x y) (hx : xs[i]? = some x) (hy : ys[i]? = some y) : PairsAt S h xs ys (acc.push (.ref T)) (i + 1) := by
  have sz := P.1
  have cut : ∀ (j : Nat) v, (acc.push (.ref T))[j]? = some v → (j = i ∧ v = .ref T) ∨ acc[j]? = some v := fun j v hj => by
    rw [Array.getElem?_push] at hj
    split at hj
    · rename_i e2
      rw [P.1] at e2
      cases hj
      exact .inl ⟨e2, rfl⟩
    · exact .inr hj
  refine ⟨by rw [Array.size_push, P.1], fun j v hj => ?_, fun j k v hj hk => ?_⟩
  · rcases cut j v hj with ⟨rfl, rfl⟩ | hj
    · exact ⟨T, x, y, rfl, hT, e, hx, hy⟩
    · exact P.2.1 j v hj
  · rcases cut j v hj with ⟨rfl, rfl⟩ | hj
    · rcases cut k _ hk with ⟨rfl, _⟩ | hk
      · rfl
      · exact absurd (lt k T hk) (Nat.lt_irrefl _)
    · rcases cut k v hk with ⟨rfl, rfl⟩ | hk
      · exact absurd (lt j T hj) (Nat.lt_irrefl _)
      · exact P.2.2 j k v hj hk
theorem pair_cls {h : Heap} {T : Addr} {x y : Value} {o : Obj} (e : IsPair h T x y) (ho : h.get? T = some o) : o.cls = .type "tuple" := by
  have e : h.get? T = some { cls := .type "tuple", data := .seq #[x, y] } := e
  rw [ho] at e
  cases e
  rfl
theorem pair_it {h : Heap} {T l : Addr} {x y : Value} {i : Nat} (e : IsPair h T x y) (ho : h.IsListIter T l i) : False := by
  obtain ⟨o, ho, hc, hd⟩ := ho
  have := hc.symm.trans (pair_cls e ho)
  injection this with h
  exact absurd h (by decide)
theorem pair_zip {h : Heap} {T TI TO T0 : Addr} {x y : Value} {fl : Bool} (e : IsPair h T x y) (ho : IsZipO h T TI TO T0 fl) : False := by
  have := pair_cls e ho
  injection this with h
  exact absurd h (by decide)
theorem pair_list {h : Heap} {T : Addr} {x y : Value} {acc : Array Value} {c : Nat} (e : IsPair h T x y) (ho : h.get? T = some { cls := .type "list", dict := none, data := .seq acc c, slots := #[] }) : False := by
  have := pair_cls e ho
  injection this with h
  exact absurd h (by decide)
theorem loop_zip (hh : A.handled = none) (D : ZipApart z TI TO i1 i2 l1 l2) (hS : S ≠ z ∧ S ≠ TI ∧ S ≠ TO ∧ S ≠ i1 ∧ S ≠ i2 ∧ S ≠ l1 ∧ S ≠ l2) (hn : min xs.size ys.size ≤ sizeLine) (res : Value) :
    ∀ (k i : Nat) (s : Shared) (acc : Array Value) (c : Nat), min xs.size ys.size - i = k → i ≤ min xs.size ys.size → ZS s.heap z TI TO i1 i2 l1 l2 xs ys i → s.heap.get? S = some { cls := .type "list", dict := none, data := .seq acc c, slots := #[] } → PairsAt S s.heap xs ys acc i →
    (∀ h' acc' c', (∀ b o, b ≠ S → b ≠ z → b ≠ TO → b ≠ i1 → b ≠ i2 → s.heap.get? b = some o → h'.get? b = some o) → h'.get? S = some { cls := .type "list", dict := none, data := .seq acc' c', slots := #[] } → PairsAt S h' xs ys acc' (min xs.size ys.size) → R (.ok (.ret res)) { s with heap := h' }) →
    codeAny (model prog w) A (.builtin "list.extend.loop" ⟨[.ref S, .ref z, res], []⟩) R s := by
  intro k
  induction k with
  | zero =>
    intro i s acc c hk hi hst hSl hacc hR
    have hin : i = min xs.size ys.size := by omega
    subst hin
    refine codeAny_builtin F.entry_extend_loop ?_
    rw [Around.under_plainId F.plain_extend_loop _]
    show wpAny _ A.in1 (pyNext (.ref z) >>= _) _ _ s
    have hend : xs[min xs.size ys.size]? = none ∨ ys[min xs.size ys.size]? = none := by
      rcases Nat.le_total xs.size ys.size with h | h
      · exact .inl (by rw [Nat.min_eq_left h]; simp)
      · exact .inr (by rw [Nat.min_eq_right h]; simp)
    have fin : ∀ h', (∀ b o, b ≠ z → b ≠ TO → b ≠ i1 → b ≠ i2 → s.heap.get? b = some o → h'.get? b = some o) → (∀ T x y, IsPair s.heap T x y → acc.size ≠ 0 → IsPair h' T x y) → R (.ok (.ret res)) { s with heap := h' } := fun h' kp kT => by
      refine hR h' acc c (fun b o n1 n2 n3 n4 n5 e => kp b o n2 n3 n4 n5 e) (kp S _ hS.1 hS.2.2.1 hS.2.2.2.1 hS.2.2.2.2.1 hSl) ⟨hacc.1, fun j v e => ?_, hacc.2.2⟩
      obtain ⟨T, x, y, e1, e0, e2, e3, e4⟩ := hacc.2.1 j v e
      refine ⟨T, x, y, e1, e0, kT T x y e2 (fun q => ?_), e3, e4⟩
      have := (Array.getElem?_eq_some_iff.mp e).1
      omega
    rcases hst.zz with ⟨h0, hz, a, b, hTO⟩ | ⟨T0, fl, x, y, hz, hT0⟩
    · refine wpAny_bind (wpAny_pyNext_zip_end hh D hz hst.ti hTO hst.h1 hst.h2 hst.hl1 hst.hl2 hend fun h' kp => wpAny_pure ?_)
      exact fin h' (fun b o n1 n2 n3 n4 e => kp b o n1 n2 n3 n4 e) fun T x y _ q => absurd (hacc.1.trans h0) q
    · refine wpAny_bind (nextO_end hh D hz hT0 hst.ti hst.h1 hst.h2 hst.hl1 hst.hl2 hend fun h' kp => wpAny_pure ?_)
      refine fin h' (fun b o n1 n2 n3 n4 e => kp b o n1 n3 n4 e) fun T x y e _ => kp T _ (fun q => ?_) (fun q => ?_) (fun q => ?_) e
      · subst q; exact pair_zip e hz
      · subst q; exact pair_it e hst.h1
      · subst q; exact pair_it e hst.h2
  | succ k ih =>
    intro i s acc c hk hi hst hSl hacc hR
    have hlt : i < min xs.size ys.size := by omega
    have hx : xs[i]? = some xs[i] := Array.getElem?_eq_getElem (by omega)
    have hy : ys[i]? = some ys[i] := Array.getElem?_eq_getElem (by omega)
    refine codeAny_builtin F.entry_extend_loop ?_
    rw [Around.under_plainId F.plain_extend_loop _]
    show wpAny _ A.in1 (pyNext (.ref z) >>= _) _ _ s
    have ltT : ∀ (j : Nat) T', acc[j]? = some (.ref T') → T' < s.heap.objs.size := fun j T' e => by
      obtain ⟨T, x, y, e1, e0, e2, e3, e4⟩ := hacc.2.1 j _ e
      cases e1
      exact Heap.lt_size e2
    have ltS : S < s.heap.objs.size := Heap.lt_size hSl
    rcases hst.zz with ⟨h0, hz, a, b, hTO⟩ | ⟨T0, fl, x0, y0, hz, hT0⟩
    · refine wpAny_bind (wpAny_pyNext_zip_item D hz hst.ti hTO hst.h1 hst.h2 hst.hl1 hst.hl2 hx hy fun h' a1 a2 a3 a4 a5 a6 kp => ?_)
      have hSl' := kp S _ hS.1 hS.2.2.1 hS.2.2.2.1 hS.2.2.2.2.1 hSl
      show wpAny _ A.in1 (updateSeq S (·.push (.ref s.heap.objs.size)) >>= _) _ _ _
      have oth : ∀ b o, b ≠ S → h'.get? b = some o → (h'.update S (Obj.mapSeq (·.push (.ref s.heap.objs.size)))).get? b = some o := fun b o hb e => (Heap.get?_update_other _ _ (Ne.symm hb)).trans e
      have pk : ∀ T x y, IsPair h' T x y → IsPair (h'.update S (Obj.mapSeq (·.push (.ref s.heap.objs.size)))) T x y := fun T x y e => oth T _ (fun q => by subst q; exact pair_list e hSl') e
      refine wpAny_bind ?_
      refine wpAny_updateSeq hSl' rfl (wpAny_pure ⟨plainId_quiet F.plain_extend_loop _, ih (i + 1) _ (acc.push (.ref s.heap.objs.size)) _ (by omega) hlt ⟨pk _ _ _ (kp TI _ D.TIz D.TITO D.TIi1 D.TIi2 hst.ti), a3.at fun o e => oth _ o hS.2.2.2.1.symm e, a4.at fun o e => oth _ o hS.2.2.2.2.1.symm e, ?l1, ?l2, .inr ⟨s.heap.objs.size, false, _, _, oth _ _ hS.1.symm a1, pk _ _ _ a5⟩⟩ (Heap.get?_update_self _ hSl' rfl) (pairs_keep (pairs_push ⟨hacc.1, fun j v e => absurd (Array.getElem?_eq_some_iff.mp e).1 (by rw [hacc.1, h0]; omega), hacc.2.2⟩ ltS ltT a5 hx hy) pk) fun h'' acc' c' kp2 hS'' hacc' => ?_⟩)
        (by rw [hacc.1]; omega) (by show (acc.push _).size ≤ sizeLine + 1; rw [Array.size_push, hacc.1]; omega)
      case l1 => obtain ⟨o, ho, hr⟩ := (show h'.IsList l1 xs from (by obtain ⟨o, ho, hr⟩ := hst.hl1; exact ⟨o, kp _ _ D.l1z D.l1TO D.l1i1 D.l1i2 ho, hr⟩)); exact ⟨o, oth _ _ hS.2.2.2.2.2.1.symm ho, hr⟩
      case l2 => obtain ⟨o, ho, hr⟩ := (show h'.IsList l2 ys from (by obtain ⟨o, ho, hr⟩ := hst.hl2; exact ⟨o, kp _ _ D.l2z D.l2TO D.l2i1 D.l2i2 ho, hr⟩)); exact ⟨o, oth _ _ hS.2.2.2.2.2.2.symm ho, hr⟩
      exact hR h'' acc' c' (fun b o n1 n2 n3 n4 n5 e => kp2 b o n1 n2 n3 n4 n5 (oth b o n1 (kp b o n2 n3 n4 n5 e))) hS'' hacc'
    · refine wpAny_bind (nextO_item D hz hT0 hst.ti hst.h1 hst.h2 hst.hl1 hst.hl2 hx hy fun h' fl1 a1 a3 a4 a5 a6 kp => ?_)
      have kq : ∀ T x y, IsPair s.heap T x y → IsPair h' T x y := fun T x y e => kp T _ (fun q => by subst q; exact pair_zip e hz) (fun q => by subst q; exact pair_it e hst.h1) (fun q => by subst q; exact pair_it e hst.h2) e
      have hSl' := kp S _ hS.1 hS.2.2.2.1 hS.2.2.2.2.1 hSl
      show wpAny _ A.in1 (updateSeq S (·.push (.ref s.heap.objs.size)) >>= _) _ _ _
      have oth : ∀ b o, b ≠ S → h'.get? b = some o → (h'.update S (Obj.mapSeq (·.push (.ref s.heap.objs.size)))).get? b = some o := fun b o hb e => (Heap.get?_update_other _ _ (Ne.symm hb)).trans e
      have pk : ∀ T x y, IsPair h' T x y → IsPair (h'.update S (Obj.mapSeq (·.push (.ref s.heap.objs.size)))) T x y := fun T x y e => oth T _ (fun q => by subst q; exact pair_list e hSl') e
      refine wpAny_bind ?_
      refine wpAny_updateSeq hSl' rfl (wpAny_pure ⟨plainId_quiet F.plain_extend_loop _, ih (i + 1) _ (acc.push (.ref s.heap.objs.size)) _ (by omega) hlt ⟨pk _ _ _ (kp TI _ D.TIz D.TIi1 D.TIi2 hst.ti), a3.at fun o e => oth _ o hS.2.2.2.1.symm e, a4.at fun o e => oth _ o hS.2.2.2.2.1.symm e, ?l1, ?l2, .inr ⟨T0, fl1, _, _, oth _ _ hS.1.symm a1, pk _ _ _ (kq _ _ _ hT0)⟩⟩ (Heap.get?_update_self _ hSl' rfl) (pairs_keep (pairs_push (pairs_keep hacc kq) ltS ltT a5 hx hy) pk) fun h'' acc' c' kp2 hS'' hacc' => ?_⟩)
        (by rw [hacc.1]; omega) (by show (acc.push _).size ≤ sizeLine + 1; rw [Array.size_push, hacc.1]; omega)
      case l1 => obtain ⟨o, ho, hr⟩ := (show h'.IsList l1 xs from (by obtain ⟨o, ho, hr⟩ := hst.hl1; exact ⟨o, kp _ _ D.l1z D.l1i1 D.l1i2 ho, hr⟩)); exact ⟨o, oth _ _ hS.2.2.2.2.2.1.symm ho, hr⟩
      case l2 => obtain ⟨o, ho, hr⟩ := (show h'.IsList l2 ys from (by obtain ⟨o, ho, hr⟩ := hst.hl2; exact ⟨o, kp _ _ D.l2z D.l2i1 D.l2i2 ho, hr⟩)); exact ⟨o, oth _ _ hS.2.2.2.2.2.2.symm ho, hr⟩
      exact hR h'' acc' c' (fun b o n1 n2 n3 n4 n5 e => kp2 b o n1 n2 n3 n4 n5 (oth b o n1 (kp b o n2 n4 n5 e))) hS'' hacc'
end
end ZK

set_option Elab.async false
set_option linter.all false
set_option maxRecDepth 100000
set_option maxHeartbeats 2000000
/-! list(zip of two lists): the call. -/
namespace ZK
open PySem PySem.Spec PyProof.Rows
theorem zip_no_len : typeLookup (.type "zip") "__len__" = pure none := by rw [typeLookup_type, builtinLookup_eq_fast]; kernel_rfl
theorem zip_no_hint : typeLookup (.type "zip") "__length_hint__" = pure none := by rw [typeLookup_type, builtinLookup_eq_fast]; kernel_rfl
section
variable {prog : Program} {w : World} {A : Around} {E : Value → Shared → Prop} {s : Shared} {z TI TO i1 i2 l1 l2 S : Addr} {xs ys : Array Value}
theorem extend_zip {R : Result → Shared → Prop} (hh : A.handled = none) (D : ZipApart z TI TO i1 i2 l1 l2) (hD : S ≠ z ∧ S ≠ TI ∧ S ≠ TO ∧ S ≠ i1 ∧ S ≠ i2 ∧ S ≠ l1 ∧ S ≠ l2) (hn : min xs.size ys.size ≤ sizeLine)
    (hS : ∃ c, s.heap.get? S = some { cls := .type "list", dict := none, data := .seq #[] c, slots := #[] }) {a b : Value} (hz : IsZip s.heap z TI TO .none) (ti : IsPair s.heap TI (.ref i1) (.ref i2)) (to : IsPair s.heap TO a b)
    (h1 : s.heap.IsListIter i1 l1 0) (h2 : s.heap.IsListIter i2 l2 0) (hl1 : s.heap.IsList l1 xs) (hl2 : s.heap.IsList l2 ys) (res : Value)
    (hR : ∀ h' acc' c', (∀ b o, b ≠ S → b ≠ z → b ≠ TO → b ≠ i1 → b ≠ i2 → s.heap.get? b = some o → h'.get? b = some o) → h'.get? S = some { cls := .type "list", dict := none, data := .seq acc' c', slots := #[] } → PairsAt S h' xs ys acc' (min xs.size ys.size) → R (.ok (.ret res)) { s with heap := h' }) :
    wpAny (model prog w) A.in1 (Builtin.List.listExtendWith (.ref S) (.ref z) res)
      (fun fin s' => match fin with | .done f => R (.ok f) s' | .again c' => c'.quiet = true ∧ codeAny (model prog w) A c' R s') (fun e s' => R (.error e) s') s := by
  obtain ⟨c, hS⟩ := hS
  have hT : s.TypeIs (.ref z) "zip" := ⟨_, hz, rfl⟩
  unfold Builtin.List.listExtendWith
  refine wpAny_bind (wpAny_typeOf hT ?_)
  have e1 : Builtin.List.listSameRef (.ref S) (.ref z) = false := by simp [Builtin.List.listSameRef, hD.1]
  have e2 : (Value.type "zip" == Value.type "list") = false := by decide
  have e3 : (Value.type "zip" == Value.type "tuple") = false := by decide
  simp only [e1, e2, e3, Bool.or_false, Bool.false_eq_true, if_false]
  refine wpAny_bind (wpAny_pyIter_zip hz ?_)
  refine wpAny_bind (wpAny_holding ?_)
  unfold Builtin.List.listLengthHint
  refine wpAny_bind (wpAny_specialOf hT zip_no_len ?_)
  show wpAny _ A.in1 (specialOf (Value.ref z) (Str.ofString "__length_hint__") >>= _) _ _ _
  refine wpAny_bind (wpAny_specialOf hT zip_no_hint ?_)
  refine wpAny_pure ?_
  show wpAny _ A.in1 (rule "list.extend.makes-room" >>= fun _ => Builtin.List.listTouch (.ref S) >>= fun _ =>
    again (.builtin "list.extend.loop" ⟨[.ref S, .ref z, res], []⟩)) _ _ _
  refine wpAny_bind (wpAny_rule ?_)
  refine wpAny_bind ?_
  show wpAny _ A.in1 (updateSeq S (·.push .none) >>= fun _ => updateSeq S (·.pop)) _ _ _
  refine wpAny_bind (wpAny_updateSeq hS rfl ?_)
  have hS2 := Heap.get?_update_self (Obj.mapSeq (·.push Value.none)) hS rfl
  refine wpAny_updateSeq hS2 rfl ?_
  have hS3 := Heap.get?_update_self (Obj.mapSeq (·.pop)) hS2 rfl
  have oth : ∀ b o, b ≠ S → s.heap.get? b = some o → ((s.heap.update S (Obj.mapSeq (·.push Value.none))).update S (Obj.mapSeq (·.pop))).get? b = some o :=
    fun b o hb e => (Heap.get?_update_other _ _ (Ne.symm hb)).trans ((Heap.get?_update_other _ _ (Ne.symm hb)).trans e)
  refine wpAny_pure ⟨plainId_quiet F.plain_extend_loop _, loop_zip hh D hD hn res _ 0 _ #[] _ rfl (Nat.zero_le _) ⟨oth _ _ hD.2.1.symm ti, h1.at fun o e => oth _ o hD.2.2.2.1.symm e, h2.at fun o e => oth _ o hD.2.2.2.2.1.symm e, ?l1, ?l2, .inl ⟨rfl, oth _ _ hD.1.symm hz, a, b, oth _ _ hD.2.2.1.symm to⟩⟩ hS3 ⟨rfl, fun j v e => by simp at e, fun j k v e => by simp at e⟩ fun h' acc' c' kp hS' hacc => ?_⟩
  case l1 => obtain ⟨o, ho, hr⟩ := hl1; exact ⟨o, oth _ _ hD.2.2.2.2.2.1.symm ho, hr⟩
  case l2 => obtain ⟨o, ho, hr⟩ := hl2; exact ⟨o, oth _ _ hD.2.2.2.2.2.2.symm ho, hr⟩
  exact hR h' acc' c' (fun b o n1 n2 n3 n4 n5 e => kp b o n1 n2 n3 n4 n5 (oth b o n1 e)) hS' hacc
theorem init_zip {R : Result → Shared → Prop} (hh : A.handled = none) (D : ZipApart z TI TO i1 i2 l1 l2) (hD : S ≠ z ∧ S ≠ TI ∧ S ≠ TO ∧ S ≠ i1 ∧ S ≠ i2 ∧ S ≠ l1 ∧ S ≠ l2) (hn : min xs.size ys.size ≤ sizeLine)
    (hS : s.heap.get? S = some { cls := .type "list", data := .seq #[] }) {a b : Value} (hz : IsZip s.heap z TI TO .none) (ti : IsPair s.heap TI (.ref i1) (.ref i2)) (to : IsPair s.heap TO a b)
    (h1 : s.heap.IsListIter i1 l1 0) (h2 : s.heap.IsListIter i2 l2 0) (hl1 : s.heap.IsList l1 xs) (hl2 : s.heap.IsList l2 ys)
    (hR : ∀ h' acc' c', (∀ b o, b ≠ S → b ≠ z → b ≠ TO → b ≠ i1 → b ≠ i2 → s.heap.get? b = some o → h'.get? b = some o) → h'.get? S = some { cls := .type "list", dict := none, data := .seq acc' c', slots := #[] } → PairsAt S h' xs ys acc' (min xs.size ys.size) → R (.ok (.ret .none)) { s with heap := h' }) :
    wpAny (model prog w) A.in1 (Builtin.«list.__init__» ⟨[.ref S, .ref z], []⟩)
      (fun fin s' => match fin with | .done f => R (.ok f) s' | .again c' => c'.quiet = true ∧ codeAny (model prog w) A c' R s') (fun e s' => R (.error e) s') s := by
  show wpAny _ _ (do let old ← Builtin.List.listItems (.ref S); Builtin.List.listUpdate (.ref S) (fun _ => #[]); letGo old.toList.reverse; Builtin.List.listExtendWith (.ref S) (.ref z) .none) _ _ s
  refine wpAny_bind ?_
  unfold Builtin.List.listItems
  refine wpAny_bind (wpAny_seqItems hS rfl (wpAny_pure ?_))
  show wpAny _ _ (updateSeq S (fun _ => #[]) >>= fun _ => letGo (#[] : Array Value).toList.reverse >>= fun _ => Builtin.List.listExtendWith (.ref S) (.ref z) .none) _ _ s
  refine wpAny_bind (wpAny_updateSeq hS rfl ?_)
  have hS2 := Heap.get?_update_self (Obj.mapSeq (fun _ => (#[] : Array Value))) hS rfl
  have oth : ∀ b o, b ≠ S → s.heap.get? b = some o → (s.heap.update S (Obj.mapSeq (fun _ => (#[] : Array Value)))).get? b = some o :=
    fun b o hb e => (Heap.get?_update_other _ _ (Ne.symm hb)).trans e
  refine wpAny_bind (wpAny_letGo ?_)
  refine extend_zip (R := R) hh D hD hn ⟨_, hS2⟩ (oth _ _ hD.1.symm hz) (oth _ _ hD.2.1.symm ti) (oth _ _ hD.2.2.1.symm to) (h1.at fun o e => oth _ o hD.2.2.2.1.symm e) (h2.at fun o e => oth _ o hD.2.2.2.2.1.symm e) ?l1 ?l2 .none fun h' acc' c' kp hS' hacc => ?_
  case l1 => obtain ⟨o, ho, hr⟩ := hl1; exact ⟨o, oth _ _ hD.2.2.2.2.2.1.symm ho, hr⟩
  case l2 => obtain ⟨o, ho, hr⟩ := hl2; exact ⟨o, oth _ _ hD.2.2.2.2.2.2.symm ho, hr⟩
  exact hR h' acc' c' (fun b o n1 n2 n3 n4 n5 e => kp b o n1 n2 n3 n4 n5 (oth b o n1 e)) hS' hacc
theorem call_list_zip {Q : Value → Shared → Prop} (hh : A.handled = none) (D : ZipApart z TI TO i1 i2 l1 l2) (hn : min xs.size ys.size ≤ sizeLine)
    {a b : Value} (hz : IsZip s.heap z TI TO .none) (ti : IsPair s.heap TI (.ref i1) (.ref i2)) (to : IsPair s.heap TO a b)
    (h1 : s.heap.IsListIter i1 l1 0) (h2 : s.heap.IsListIter i2 l2 0) (hl1 : s.heap.IsList l1 xs) (hl2 : s.heap.IsList l2 ys)
    (hQ : ∀ h' acc' c', (∀ b o, b ≠ z → b ≠ TO → b ≠ i1 → b ≠ i2 → s.heap.get? b = some o → h'.get? b = some o) → h'.get? s.heap.objs.size = some { cls := .type "list", dict := none, data := .seq acc' c', slots := #[] } → PairsAt s.heap.objs.size h' xs ys acc' (min xs.size ys.size) → Q (.ref s.heap.objs.size) { s with heap := h' }) :
    wpAny (model prog w) A (call (.type "list") [.ref z]) Q E s := by
  refine callType_codes (Q₁ := fun obj s₁ => obj = .ref s.heap.objs.size ∧ s₁ = { s with heap := s.heap.push { cls := .type "list", data := .seq #[] } }) F.called_list (F.typeCall_list_1 _) F.entry_list_init
    (code_list_new _ ⟨rfl, rfl⟩) fun obj s₁ hs => ?_
  obtain ⟨rfl, rfl⟩ := hs
  have hS : (s.heap.push { cls := .type "list", data := .seq #[] }).get? s.heap.objs.size = some { cls := .type "list", data := .seq #[] } := Heap.get?_push_size _ rfl
  have up : ∀ b o, s.heap.get? b = some o → (s.heap.push { cls := .type "list", data := .seq #[] }).get? b = some o := fun b o e => Heap.get?_push_of_some _ e
  have ne : ∀ {b o}, s.heap.get? b = some o → s.heap.objs.size ≠ b := fun e => Nat.ne_of_gt (Heap.lt_size e)
  have n1 : s.heap.objs.size ≠ i1 := by obtain ⟨_, e, _⟩ := h1; exact ne e
  have n2 : s.heap.objs.size ≠ i2 := by obtain ⟨_, e, _⟩ := h2; exact ne e
  have n3 : s.heap.objs.size ≠ l1 := by obtain ⟨_, e, _⟩ := hl1; exact ne e
  have n4 : s.heap.objs.size ≠ l2 := by obtain ⟨_, e, _⟩ := hl2; exact ne e
  refine ⟨⟨_, hS, rfl⟩, F.args_list_init_2 _ _, init_zip (A := A.in1) hh D ⟨ne hz, ne ti, ne to, n1, n2, n3, n4⟩ hn hS (up _ _ hz) (up _ _ ti) (up _ _ to) (h1.at fun o e => up _ o e) (h2.at fun o e => up _ o e) ?l1 ?l2 fun h' acc' c' kp hS' hacc => ?_⟩
  case l1 => obtain ⟨o, ho, hr⟩ := hl1; exact ⟨o, up _ _ ho, hr⟩
  case l2 => obtain ⟨o, ho, hr⟩ := hl2; exact ⟨o, up _ _ ho, hr⟩
  exact ⟨rfl, hQ h' acc' c' (fun b o n2 n3 n4 n5 e => kp b o (Nat.ne_of_lt (Heap.lt_size e)) n2 n3 n4 n5 (up b o e)) hS' hacc⟩
end
end ZK

set_option Elab.async false
set_option linter.all false
set_option maxRecDepth 100000
set_option maxHeartbeats 2000000
/-! list(zip(a, b)) as an expression. -/
namespace ZK
open PySem PySem.Spec PyProof.Rows L2
theorem inv_lay {X : Cx} {pins : List (Addr × Obj)} {σ : L2.St} {H H' : Hp} {s : Shared} {h' : Heap} {t' : Nat} (I : Inv X pins σ H s) (k : ∀ b u, s.heap.get? b = some u → h'.get? b = some u) (hh : ∀ b o, H b = some o → H' b = some o)
    (new : ∀ b o, H b = none → H' b = some o → s.heap.objs.size ≤ b ∧ ObjOk X.prog X.w H' h' b o) : Inv X pins σ H' { s with heap := h', toks := t' } := by
  refine I.un ⟨fun b u q _ _ _ => k b u q, fun b u q _ _ _ => ⟨u.slots, k b u q⟩, fun b u q n _ => ?_, fun b u q _ => ⟨u, k b u q⟩, fun b xs q => hh _ _ q, fun b u xs q => hh _ _ q, fun b ps q => ⟨#[], by rw [hh _ _ q]; simp⟩⟩ fun b o e => ?_
  · cases z : H' b with
    | none => rfl
    | some u' =>
      have := (new b u' n z).1
      exact absurd (Nat.lt_of_lt_of_le (Heap.lt_size q) this) (Nat.lt_irrefl _)
  · cases z : H b with
    | none => exact (new b o z e).2
    | some u =>
      have e2 := hh b u z
      rw [e] at e2
      cases e2
      exact (I.hok b o z).stay (fun c v _ q => k c v q) (fun c q => hh _ _ q) fun c xs q => hh _ _ q
theorem refs_of : ∀ {l : List Value}, (∀ v, v ∈ l → ∃ T, v = .ref T) → ∃ ts : List Addr, l = ts.map Value.ref
  | [], _ => ⟨[], rfl⟩
  | v :: l, h => by
    obtain ⟨T, rfl⟩ := h v List.mem_cons_self
    obtain ⟨ts, rfl⟩ := refs_of (l := l) fun u hu => h u (List.mem_cons_of_mem _ hu)
    exact ⟨T :: ts, rfl⟩
theorem vals_refs : ∀ ts : List Addr, Vals (ts.map V.ref) (ts.map Value.ref)
  | [] => .nil
  | t :: ts => .cons rfl (vals_refs ts)
theorem vals_get : ∀ {xs : List V} {us : List Value} {j : Nat} {u : Value}, Vals xs us → us[j]? = some u → ∃ x, xs[j]? = some x ∧ RelV x u
  | _, _, j, _, .nil, h => by simp at h
  | _, _, 0, _, .cons r _, h => by simp at h; subst h; exact ⟨_, rfl, r⟩
  | _, _, j + 1, u, .cons _ t, h => by
    obtain ⟨x, e, r⟩ := vals_get (j := j) t (by simpa using h)
    exact ⟨x, by simpa using e, r⟩
def tLZ (K : PySem.W.Frag) (ta : TA) : TE := fun σ H Q => ta σ H fun vs H1 => ∃ (a b : Addr) (xs ys : List V), vs = [.ref a, .ref b] ∧ SqL K H1 a xs ∧ SqL K H1 b ys ∧
  ∀ (p : Addr) (ts : List Addr) (H2 : Hp), H1 p = none → ts.length = min xs.length ys.length → (∀ t, t ∈ ts → H1 t = none ∧ t ≠ p) → H2 p = some (.lst (ts.map V.ref)) →
    (∀ (j : Nat) t x y, ts[j]? = some t → xs[j]? = some x → ys[j]? = some y → H2 t = some (.tup [x, y])) → (∀ c, c ≠ p → c ∉ ts → H2 c = H1 c) → Q (.ref p) H2
open Classical in
/-- the heap behind: the list, the pairs -/
noncomputable def layZ (H1 : Hp) (p : Addr) (ts : List Addr) (xs ys : List V) : Hp := fun c =>
  if c = p then some (.lst (ts.map V.ref)) else
  if h : ∃ (j : Nat) (x y : V), ts[j]? = some c ∧ xs[j]? = some x ∧ ys[j]? = some y then some (.tup [choose (choose_spec h), choose (choose_spec (choose_spec h))]) else H1 c
theorem layZ_p {H1 : Hp} {p : Addr} {ts : List Addr} {xs ys : List V} : layZ H1 p ts xs ys p = some (.lst (ts.map V.ref)) := if_pos rfl
theorem layZ_t {H1 : Hp} {p c : Addr} {ts : List Addr} {xs ys : List V} (hp : c ≠ p) (nd : ∀ (j k : Nat) t, ts[j]? = some t → ts[k]? = some t → j = k) {j : Nat} {x y : V} (h1 : ts[j]? = some c) (h2 : xs[j]? = some x) (h3 : ys[j]? = some y) : layZ H1 p ts xs ys c = some (.tup [x, y]) := by
  unfold layZ
  rw [if_neg hp]
  have h : ∃ (j : Nat) (x y : V), ts[j]? = some c ∧ xs[j]? = some x ∧ ys[j]? = some y := ⟨j, x, y, h1, h2, h3⟩
  rw [dif_pos h]
  obtain ⟨a1, a2, a3⟩ := Classical.choose_spec (Classical.choose_spec (Classical.choose_spec h))
  have e := nd _ _ _ a1 h1
  have b2 := Option.some.inj (h2.symm.trans ((congrArg (fun k => xs[k]?) e).symm.trans a2))
  have b3 := Option.some.inj (h3.symm.trans ((congrArg (fun k => ys[k]?) e).symm.trans a3))
  have two : ∀ {u u' v v' : V}, u = u' → v = v' → (some (HO.tup [u', v']) : Option HO) = some (HO.tup [u, v]) := fun a b => by rw [a, b]
  exact two b2 b3
theorem layZ_o {H1 : Hp} {p c : Addr} {ts : List Addr} {xs ys : List V} (hp : c ≠ p) (hc : c ∉ ts) : layZ H1 p ts xs ys c = H1 c := by
  unfold layZ
  rw [if_neg hp, dif_neg]
  rintro ⟨j, x, y, h, _⟩
  exact hc (List.mem_of_getElem? h)
theorem layZ_new {H1 : Hp} {p c : Addr} {ts : List Addr} {xs ys : List V} {o : HO} (h : layZ H1 p ts xs ys c = some o) (hn : H1 c = none) : c = p ∨ ∃ (j : Nat) (x y : V), c ≠ p ∧ ts[j]? = some c ∧ xs[j]? = some x ∧ ys[j]? = some y := by
  by_cases hp : c = p
  · exact .inl hp
  · unfold layZ at h
    rw [if_neg hp] at h
    split at h
    · rename_i q
      obtain ⟨j, x, y, a1, a2, a3⟩ := q
      exact .inr ⟨j, x, y, hp, a1, a2, a3⟩
    · rw [hn] at h; cases h
theorem pe_listZip {X : Cx} {nl nz : Str} {pl pz pos zpos : Pos} {e e2 : Expr} {ta : TA} (hc : X.calm = true) (hgl : Gl X nl) (hml : X.mg nl = none) (hvl : bootBuiltins nl = some (.type "list")) (hgz : Gl X nz) (hmz : X.mg nz = none) (hvz : bootBuiltins nz = some (.type "zip"))
    (ha : PA X [e, e2] ta) (hnl : nl ≠ "__name__" := by decide) (hdl : (nl == ("__debug__" : Str)) = false := by decide) (hnz : nz ≠ "__name__" := by decide) (hdz : (nz == ("__debug__" : Str)) = false := by decide)
    (hs : starEach [e, e2] X.env = (false, eval e X.env) :: starEach [e2] X.env := by rfl) (hpl : (backTo zpos (starEach [e2] X.env)).any (·.1) = false := by rfl)
    (hs0 : starEach [.Call (.Name nz pz) [e, e2] [] zpos] X.env = [(false, eval (.Call (.Name nz pz) [e, e2] [] zpos) X.env)] := by rfl) :
    PE X (.Call (.Name nl pl) [.Call (.Name nz pz) [e, e2] [] zpos] [] pos) (tLZ X.K ta) := by
  refine ⟨fun pins s σ H Q I h => ?_⟩
  refine wpAny_Call_Name_kw (ld_blt I hgl hml hvl ?_ hnl hdl)
  refine PyProof.Rows.callWith_type1 ?_ (by rw [hs0]; rfl) rfl
  rw [hs0]
  show wpAny _ _ (spliced ((false, eval (.Call (.Name nz pz) [e, e2] [] zpos) X.env) :: [])) _ _ s
  refine Calls.spliced_cons ?_
  refine wpAny_Call_Name_kw (ld_blt I hgz hmz hvz ?_ hnz hdz)
  refine PyProof.Rows.callWith_type1 (thn (ha.run zpos pins s σ H _ I h) fun us s1 ⟨vs, H1, I1, r1, q1⟩ => ?_) hs hpl
  obtain ⟨a, b, xs, ys, ex, hqx, hqy, q⟩ := q1
  subst ex
  cases r1 with
  | cons r rr =>
    cases rr with
    | cons r' rr =>
      cases rr
      cases r
      cases r'
      obtain ⟨its, rv, p1, z1⟩ := I1.list hqx
      obtain ⟨its2, rv2, p2, z2⟩ := I1.list hqy
      have la : a < s1.heap.objs.size := p1.lt
      have lb : b < s1.heap.objs.size := p2.lt
      refine call_zip_2 p1.isList p2.isList fun h' hz hTI hTO h1 h2 hsz hk => Calls.spliced_nil ?_
      have l1 : h'.IsList a its.toArray := by obtain ⟨o, ho, hr⟩ := p1.isList; exact ⟨o, hk _ _ ho, hr⟩
      have l2 : h'.IsList b its2.toArray := by obtain ⟨o, ho, hr⟩ := p2.isList; exact ⟨o, hk _ _ ho, hr⟩
      have len1 := rv.length
      have len2 := rv2.length
      have hn : min its.toArray.size its2.toArray.size ≤ sizeLine := by
        simp only [List.size_toArray]
        omega
      refine call_list_zip (s := { s1 with heap := h' }) (I1.ok.hd hc) (PySem.W.ktu_apart s1.heap.objs.size a b la lb) hn hz hTI hTO h1 h2 l1 l2 fun h'' acc' c' kp hS hacc => ?_
      have hN : s1.heap.objs.size ≤ h'.objs.size := by rw [hsz]; exact Nat.le_add_right _ _
      have hS : h''.get? h'.objs.size = some { cls := .type "list", data := .seq acc' c' } := hS
      have hacc : PairsAt h'.objs.size h'' its.toArray its2.toArray acc' (min its.toArray.size its2.toArray.size) := hacc
      obtain ⟨ts, hts⟩ := refs_of (l := acc'.toList) fun v hv => by
        obtain ⟨j, hj, e⟩ := List.getElem_of_mem hv
        obtain ⟨T, x, y, e1, _⟩ := hacc.2.1 j v (by rw [← Array.getElem?_toList, List.getElem?_eq_getElem hj, e])
        exact ⟨T, e1⟩
      have tget : ∀ (j : Nat) t, ts[j]? = some t → acc'[j]? = some (.ref t) := fun j t e => by
        rw [← Array.getElem?_toList, hts, List.getElem?_map, e]
        rfl
      have tsl : ts.length = min xs.length ys.length := by
        have e1 : acc'.toList.length = ts.length := by rw [hts, List.length_map]
        rw [← e1, Array.length_toList, hacc.1]
        simp only [List.size_toArray]
        rw [len1, len2]
      have tnew : ∀ t, t ∈ ts → h'.objs.size < t := fun t ht => by
        obtain ⟨j, hj, e⟩ := List.getElem_of_mem ht
        obtain ⟨T, x, y, e1, e0, _⟩ := hacc.2.1 j (.ref t) (tget j t (by rw [List.getElem?_eq_getElem hj, e]))
        cases e1
        exact e0
      have nd : ∀ (j k : Nat) t, ts[j]? = some t → ts[k]? = some t → j = k := fun j k t a1 a2 => hacc.2.2 j k _ (tget j t a1) (tget k t a2)
      have fS : H1 h'.objs.size = none := I1.hok.fresh hN
      have fT : ∀ t, t ∈ ts → H1 t = none ∧ t ≠ h'.objs.size := fun t ht => ⟨I1.hok.fresh (Nat.le_trans hN (Nat.le_of_lt (tnew t ht))), Nat.ne_of_gt (tnew t ht)⟩
      have old : ∀ b u, s1.heap.get? b = some u → h''.get? b = some u := fun b u e => by
        have lt := Heap.lt_size e
        exact kp b u (Nat.ne_of_lt (Nat.lt_of_lt_of_le lt (Nat.le_add_right _ _))) (Nat.ne_of_lt (Nat.lt_of_lt_of_le lt (Nat.le_add_right _ _))) (Nat.ne_of_lt lt) (Nat.ne_of_lt (Nat.lt_of_lt_of_le lt (Nat.le_add_right _ _))) (hk b u e)
      have I2 : L2.Inv X pins σ (layZ H1 h'.objs.size ts xs ys) { s1 with heap := h'' } := by
        refine inv_lay (t' := s1.toks) I1 old (fun b o e => ?_) fun b o hn0 e => ?_
        · rw [layZ_o (fun z => by rw [z, fS] at e; cases e) (fun z => by rw [(fT b z).1] at e; cases e)]
          exact e
        · rcases layZ_new e hn0 with rfl | ⟨j, x, y, hp, a1, a2, a3⟩
          · rw [layZ_p] at e
            cases e
            refine ⟨hN, ?_, acc'.toList, c', ?_, ?_⟩
            · rw [List.length_map, tsl]; omega
            · rw [hts]; exact vals_refs ts
            · rw [Array.toArray_toList]; exact hS
          · rw [layZ_t hp nd a1 a2 a3] at e
            cases e
            obtain ⟨T, u1, u2, e1, e0, e2, e3, e4⟩ := hacc.2.1 j _ (tget j b a1)
            cases e1
            obtain ⟨x', g1, g2⟩ := vals_get (j := j) (u := u1) rv (by simpa using e3)
            obtain ⟨y', g3, g4⟩ := vals_get (j := j) (u := u2) rv2 (by simpa using e4)
            rw [a2] at g1
            rw [a3] at g3
            cases g1
            cases g3
            exact ⟨Nat.le_trans hN (Nat.le_of_lt e0), by show 2 ≤ sizeLine; decide, [u1, u2], .cons g2 (.cons g4 .nil), _, e2, rfl, _, rfl⟩
      exact ⟨.ref h'.objs.size, _, I2, rfl, q h'.objs.size ts _ fS tsl fT layZ_p (fun j t x y a1 a2 a3 => layZ_t (fT t (List.mem_of_getElem? a1)).2 nd a1 a2 a3) fun c c1 c2 => layZ_o c1 c2⟩
end ZK

set_option Elab.async false
set_option linter.all false
set_option maxRecDepth 100000
set_option maxHeartbeats 2000000
/-! The data layer: list(zip(a, b)). -/
namespace DL
open PySem PySem.Spec PyProof.Rows L2
theorem repL_of {K : PySem.W.Frag} {fa : Option FA} {F : Hp} : ∀ {ds : List D} {vs : List V}, ds.length = vs.length → (∀ (j : Nat) d v, ds[j]? = some d → vs[j]? = some v → Rep K fa F d v) → RepL K fa F ds vs
  | [], [], _, _ => .nil
  | [], _ :: _, h, _ => by simp at h
  | _ :: _, [], h, _ => by simp at h
  | d :: ds, v :: vs, h, k => .cons (k 0 d v rfl rfl) (repL_of (by simpa using h) fun j d' v' a b => k (j + 1) d' v' (by simpa using a) (by simpa using b))
theorem zipD_lenA : ∀ xs ys : List D, (zipD xs ys).length = min xs.length ys.length
  | [], ys => by simp [zipD]
  | x :: xs, [] => by simp [zipD]
  | x :: xs, y :: ys => by simp [zipD, zipD_lenA xs ys]
theorem zipD_getA : ∀ {xs ys : List D} {j : Nat} {d : D}, (zipD xs ys)[j]? = some d → ∃ x y, xs[j]? = some x ∧ ys[j]? = some y ∧ d = .tup [x, y]
  | [], ys, j, d, h => by simp [zipD] at h
  | x :: xs, [], j, d, h => by simp [zipD] at h
  | x :: xs, y :: ys, 0, d, h => by simp [zipD] at h; exact ⟨x, y, rfl, rfl, h.symm⟩
  | x :: xs, y :: ys, j + 1, d, h => by
    obtain ⟨a, b, h1, h2, h3⟩ := zipD_getA (xs := xs) (ys := ys) (j := j) (d := d) (by simpa [zipD] using h)
    exact ⟨a, b, by simpa using h1, by simpa using h2, h3⟩
def zipLD : List D → Option D
  | [.lst xs, .lst ys] => some (.lst (zipD xs ys))
  | _ => none
section
variable {X : Cx} {fa : Option FA} {W : L2.St → XK} {fl : Env' → M (List D)}
open Classical in
theorem ed_listZip {nl nz : Str} {pl pz pos zpos : Pos} {e e2 : Expr} (hc : X.calm = true) (hml : X.mg nl = none) (hmz : X.mg nz = none) (ha : LD X fa W [e, e2] fl) (hgl : Gl X nl := by rfl) (hvl : bootBuiltins nl = some (.type "list") := by decide +kernel) (hgz : Gl X nz := by rfl) (hvz : bootBuiltins nz = some (.type "zip") := by decide +kernel)
    (hnl : nl ≠ "__name__" := by decide) (hdl : (nl == ("__debug__" : Str)) = false := by decide) (hnz : nz ≠ "__name__" := by decide) (hdz : (nz == ("__debug__" : Str)) = false := by decide)
    (hs : starEach [e, e2] X.env = (false, eval e X.env) :: starEach [e2] X.env := by rfl) (hpl : (backTo zpos (starEach [e2] X.env)).any (·.1) = false := by rfl)
    (hs0 : starEach [.Call (.Name nz pz) [e, e2] [] zpos] X.env = [(false, eval (.Call (.Name nz pz) [e, e2] [] zpos) X.env)] := by rfl) :
    ED X fa W (.Call (.Name nl pl) [.Call (.Name nz pz) [e, e2] [] zpos] [] pos) (dFn zipLD fl) := by
  obtain ⟨ta, pa, ka⟩ := ha
  refine ⟨_, ZK.pe_listZip hc hgl hml hvl hgz hmz hvz pa hnl hdl hnz hdz hs hpl hs0, fun σ F H ρ s Q h1 h2 h3 h => ?_⟩
  refine ka.then Good.tgt h1 h2 h3 h fun ds s1 vs F1 H1 e1 o1 r1 v1 h' => ?_
  have h' := Good.lift h'
  cases r1 with
  | nil => exact h'.elim
  | cons ra t =>
    cases t with
    | nil => cases ra <;> exact h'.elim
    | cons rb t =>
      cases t with
      | cons _ _ => cases ra <;> cases rb <;> exact h'.elim
      | nil =>
        cases ra with
        | @lst a xs us ha ra =>
          cases rb with
          | @lst b ys ws hb rb =>
            refine ⟨a, b, us, ws, rfl, SqL.of (e1.fh _ _ ha), SqL.of (e1.fh _ _ hb), fun p ts H2 hp hl ht hP hT hO => ?_⟩
            have fp : F1 p = none := Same.free e1.fh hp
            have ft : ∀ t, t ∈ ts → F1 t = none := fun t h => Same.free e1.fh (ht t h).1
            have oldH : ∀ c, H1 c ≠ none → H2 c = H1 c := fun c hc => hO c (fun z => hc (z ▸ hp)) fun z => hc (ht c z).1
            let F2 : Hp := fun c => if c = p ∨ c ∈ ts then H2 c else F1 c
            have f2n : ∀ c, (c = p ∨ c ∈ ts) → F2 c = H2 c := fun c hc => if_pos hc
            have f2o : ∀ c, H1 c ≠ none → F2 c = F1 c := fun c hc => if_neg fun z => z.elim (fun z => hc (z ▸ hp)) fun z => hc (ht c z).1
            have sf : Same F1 F2 := fun c o ec => by
              rw [f2o c (by rw [e1.fh _ _ ec]; simp)]; exact ec
            have ex : Ext fa F1 H1 F2 H2 := by
              refine ⟨sf, fun c o ec => ?_, fun c o ec _ => by rw [oldH c (by rw [ec]; simp)]; exact ec, fun c hc => f2o c hc, fun c hc => by rw [oldH c hc]; exact hc⟩
              by_cases hc : c = p ∨ c ∈ ts
              · rw [f2n c hc] at ec; exact ec
              · have e0 : F1 c = some o := by
                  have : F2 c = F1 c := if_neg hc
                  rw [← this]; exact ec
                have e2 := e1.fh _ _ e0
                rw [oldH c (by rw [e2]; simp)]; exact e2
            refine h' (.ref p) F2 H2 ex (o1.ext_same sf (fun c o ec => by rw [oldH c (by rw [ec]; simp)]; exact ec) fun c hc => f2o c hc) (.lst (by rw [f2n p (.inl rfl)]; exact hP) (repL_of (by rw [zipD_lenA, List.length_map, hl, ra.length, rb.length]) fun j d v hd hv => ?_))
            obtain ⟨x, y, hx, hy, rfl⟩ := zipD_getA hd
            rw [List.getElem?_map] at hv
            cases q : ts[j]? with
            | none => rw [q] at hv; cases hv
            | some t =>
              rw [q] at hv
              cases hv
              obtain ⟨u, hu, ru⟩ := ra.get' hx
              obtain ⟨w, hw, rw'⟩ := rb.get' hy
              refine .tup (.inl (.inl ?_)) (.cons (ru.mono sf) (.cons (rw'.mono sf) .nil))
              rw [f2n t (.inr (List.mem_of_getElem? q))]
              exact hT j t u w q hu hw
          | _ => exact h'.elim
        | _ => cases rb <;> exact h'.elim
end
end DL

set_option Elab.async false
set_option linter.all false
set_option maxRecDepth 100000
set_option maxHeartbeats 2000000
/-! The data layer: instances: their attributes, properties, methods; instances made. -/
namespace DL
open PySem PySem.Spec PyProof.Rows L2

/-! ### the heap's attributes as data -/
section
variable {K : PySem.W.Frag} {fa : Option FA} {F H : Hp}
theorem RepF.look {f : Str} : ∀ {fs : List (Str × D)} {vs : List (Str × V)}, RepF K fa F fs vs → (∀ d, fs.lookup f = some d → ∃ v, vs.lookup f = some v ∧ Rep K fa F d v) ∧ (fs.lookup f = none → vs.lookup f = none)
  | _, _, .nil => ⟨fun d h => by simp at h, fun _ => rfl⟩
  | _, _, .cons (k := k) (d := d0) (ds := ds) r t => by
    obtain ⟨h1, h2⟩ := RepF.look (f := f) t
    refine ⟨fun d h => ?_, fun h => ?_⟩
    · rw [List.lookup_cons] at h ⊢
      split at h
      · cases h; exact ⟨_, rfl, r⟩
      · exact h1 d h
    · rw [List.lookup_cons] at h ⊢
      split at h
      · cases h
      · exact h2 h
theorem RepF.length : ∀ {fs : List (Str × D)} {vs : List (Str × V)}, RepF K fa F fs vs → vs.length = fs.length
  | _, _, .nil => rfl
  | _, _, .cons _ t => congrArg (· + 1) (RepF.length t)
def putFD (f : Str) (x : D) : List (Str × D) → List (Str × D)
  | [] => [(f, x)]
  | (g, y) :: r => if g = f then (g, x) :: r else (g, y) :: putFD f x r
theorem RepF.put {f : Str} {x : D} {v : V} (rx : Rep K fa F x v) : ∀ {fs : List (Str × D)} {vs : List (Str × V)}, RepF K fa F fs vs → RepF K fa F (putFD f x fs) (putF f v vs)
  | _, _, .nil => .cons rx .nil
  | _, _, .cons (k := k) r t => by
    unfold putFD putF
    by_cases h : k = f
    · rw [if_pos h, if_pos h]; exact .cons rx t
    · rw [if_neg h, if_neg h]; exact .cons r (RepF.put rx t)
theorem putFD_len {f : Str} {x : D} : ∀ fs : List (Str × D), (putFD f x fs).length ≤ fs.length + 1
  | [] => Nat.le_refl _
  | (g, y) :: r => by
    unfold putFD
    split
    · simp
    · have := putFD_len (f := f) (x := x) r
      simp only [List.length_cons]
      omega
end

/-! ### e.f -/
/-- what stands for an attribute: the object's own, a constant of the class, a property -/
inductive AK where
  | fld
  | con (d : D)
  | prop (g : List D → M D)
/-- the class of that name has the attribute f so -/
def AOk (P : Program) (w : World) (K : PySem.W.Frag) (mg : Str → Option Value) (base : Heap) (k : Nat) (c f : Str) (ak : AK) : Prop := ∃ C, PySem.W.nsIn K mainGlobals c = some (some (.ref C)) ∧ Cls K C ∧ match ak with
  | .fld => NoAttr K C f
  | .con d => ∃ v u, Con K C f v u ∧ ∀ fa F, Rep K fa F d v
  | .prop g => ∃ p gf fd ps, PropOf K C f p gf ∧ FnOk P w K mg base (L2.CX P w) k gf fd ps (DSp K mg g) ∧ Binds K fd ps []
def attrD (tab : List (Str × AK)) (f : Str) : D → M D
  | .ins c fs => match tab.lookup c with
    | some .fld => M.lift (fs.lookup f)
    | some (.con d) => if (fs.lookup f).isNone = true then M.pure d else M.bad
    | some (.prop g) => M.quiet (g [.ins c fs])
    | none => M.bad
  | _ => M.bad
def dAttr (tab : List (Str × AK)) (f : Str) (f1 : Env' → M D) : Env' → M D := fun ρ => (f1 ρ).bind (attrD tab f)
section
variable {X : Cx} {fa : Option FA} {W : L2.St → XK} {e o : Expr} {es : List Expr} {pos p apos : Pos} {f1 : Env' → M D} {fl fk : Env' → M (List D)} {f m : Str} {k : Nat} {ta : TE} {t tk : TA} {kws : List Keyword}
def tAttr (X : Cx) (k : Nat) (ta : TE) (f : Str) : TE := fun σ H Q => ta σ H fun x H1 => ∃ a C dx fs, x = .ref a ∧ H1 a = some (.ins C dx fs) ∧ Cls X.K C ∧
  ((NoAttr X.K C f ∧ ∃ v, fs.lookup f = some v ∧ Q v H1) ∨ (∃ v u, Con X.K C f v u ∧ fs.lookup f = none ∧ Q v H1) ∨
   (∃ p g fd ps sp, PropOf X.K C f p g ∧ FnOk X.prog X.w X.K X.mg X.base (L2.CX X.prog X.w) k g fd ps sp ∧ Binds X.K fd ps [] ∧ sp [.ref a] H1 Q (fun _ _ _ => False)))
theorem pe_attrA (he : PE X e ta) (hr : Room (k + 1) X.A) (hb : attributeBase e f X.env (eval e X.env) = eval e X.env) : PE X (.Attribute e f pos) (tAttr X k ta f) := by
  refine ⟨fun pins s σ H Q I h => ?_⟩
  refine attr_of hb (thn (he.run pins s σ H _ I h) fun u s1 ⟨x, H1, I1, rx, a, C, dx, fs, ex, ea, c, q⟩ => ?_)
  subst ex
  obtain rfl : u = Value.ref a := rx
  rcases q with ⟨n, v, l, q⟩ | ⟨v, u0, k0, l, q⟩ | ⟨p, g, fd, ps, sp, hp, F, hbb, q⟩
  · exact getattr_ok I1 ea c n l fun u' s2 I2 ru => ⟨v, H1, I2, ru, q⟩
  · exact getcon_ok I1 ea c k0 l fun s2 I2 => ⟨v, H1, I2, k0.rel, q⟩
  · exact getprop_ok I1 ea c hp F hr hbb .nil (passF (X := X.nox)) q
theorem quiet_good {F H : Hp} {m : M D} {s : FS} {Q : VK} {W1 W2 : XK} (h : Good X fa W1 F H (M.quiet m s) Q) : Good X fa W2 F H (m s) Q := by
  unfold M.quiet at h
  cases q : m s with
  | bad => rw [q] at h; exact h
  | err e s' => rw [q] at h; exact h.elim
  | ok d s' => rw [q] at h; exact h
theorem lookup_mem {α β : Type} [BEq α] [LawfulBEq α] {a : α} {b : β} : ∀ {l : List (α × β)}, l.lookup a = some b → (a, b) ∈ l
  | [], h => by simp at h
  | (x, y) :: r, h => by
    rw [List.lookup_cons] at h
    split at h
    · rename_i e
      cases h
      rw [eq_of_beq e]
      exact List.mem_cons_self
    · exact List.mem_cons_of_mem _ (lookup_mem h)
theorem ed_attr {tab : List (Str × AK)} (hr : Room (k + 1) X.A) (ht : ∀ q ∈ tab, AOk X.prog X.w X.K X.mg X.base k q.1 f q.2) (ha : ED X fa W e f1) (hb : attributeBase e f X.env (eval e X.env) = eval e X.env := by rfl) : ED X fa W (.Attribute e f pos) (dAttr tab f f1) := by
  obtain ⟨ta, pa, ka⟩ := ha
  refine ⟨_, pe_attrA pa hr hb, fun σ F H ρ s Q h1 h2 h3 h => ?_⟩
  refine ka.then Good.tgt h1 h2 h3 h fun x s1 v F1 H1 e1 o1 r1 v1 h' => ?_
  cases r1 with
  | @ins a C dx c fs vs g n r =>
    unfold attrD at h'
    dsimp only at h'
    cases q : tab.lookup c with
    | none => rw [q] at h'; exact h'.elim
    | some ak =>
      rw [q] at h'
      obtain ⟨C', n', cc, z⟩ := ht _ (lookup_mem q)
      have : C' = C := by
        rw [n] at n'
        cases n'
        rfl
      subst this
      refine ⟨a, C', dx, vs, rfl, e1.fh _ _ g, cc, ?_⟩
      cases ak with
      | fld =>
        refine .inl ⟨z, ?_⟩
        dsimp only at h'
        cases l : fs.lookup f with
        | none => rw [l] at h'; exact h'.elim
        | some d =>
          rw [l] at h'
          obtain ⟨v, lv, rv⟩ := (r.look (f := f)).1 d l
          exact ⟨v, lv, Good.here e1.fh o1 rv h'⟩
      | con d =>
        obtain ⟨v, u, k0, rv⟩ := z
        refine .inr (.inl ⟨v, u, k0, ?_⟩)
        dsimp only at h'
        cases l : fs.lookup f with
        | some d => rw [l] at h'; exact h'.elim
        | none =>
          rw [l] at h'
          exact ⟨(r.look (f := f)).2 l, Good.here e1.fh o1 (rv _ _) h'⟩
      | prop g' =>
        obtain ⟨p, gf, fd, ps, hp, Fn, hbb⟩ := z
        refine .inr (.inr ⟨p, gf, fd, ps, _, hp, Fn, hbb, fa, F1, s1, [.ins c fs], e1.fh, o1, .cons (.ins g n r) .nil, ?_⟩)
        exact quiet_good h'
  | _ => exact h'.elim

/-! ### o.m(..) -/
def MOk (P : Program) (w : World) (K : PySem.W.Frag) (mg : Str → Option Value) (base : Heap) (k : Nat) (c m : Str) (g : List D → M D) : Prop := ∃ C f fd ps, PySem.W.nsIn K mainGlobals c = some (some (.ref C)) ∧ Cls K C ∧ Meth K C m f ∧ FnOk P w K mg base (L2.CX P w) k f fd ps (DSp K mg g) ∧ Binds K fd ps []
def methOf (tab : List (Str × (List D → M D))) (m : Str) : D → Option (List D → M D)
  | .ins c fs => match tab.lookup c with
    | some g => if (fs.lookup m).isNone = true then some g else none
    | none => none
  | _ => none
def dMeth (tab : List (Str × (List D → M D))) (m : Str) (f1 : Env' → M D) (fl : Env' → M (List D)) : Env' → M D := fun ρ => (f1 ρ).bind fun x => (M.lift (methOf tab m x)).bind fun g => (fl ρ).bind fun xs => g (x :: xs)
def tMethA (X : Cx) (k : Nat) (m : Str) (W : L2.St → XK) (ta : TE) (t : TA) : TE := fun σ H Q => ta σ H fun x H1 => ∃ a C dx fs, x = .ref a ∧ H1 a = some (.ins C dx fs) ∧ ∃ f fd ps sp, Cls X.K C ∧ Meth X.K C m f ∧ FnOk X.prog X.w X.K X.mg X.base (L2.CX X.prog X.w) k f fd ps sp ∧ Binds X.K fd ps [] ∧ fs.lookup m = none ∧ t σ H1 fun vs H2 => sp (x :: vs) H2 Q (W σ)
theorem pe_methA {pl : Sem Bool} (he : PE X o ta) (hr : Room k X.A) (hx : ∀ σ, PassesAt (L2.CX X.prog X.w) X σ (W σ)) (ha : PA X (e :: es) t)
    (hst : starEach (e :: es) X.env = (false, eval e X.env) :: starEach es X.env := by rfl) (hpl : (backTo pos (starEach es X.env)).any (·.1) = false := by rfl)
    (ht : eval (.Call (.Attribute o m apos) (e :: es) [] pos) X.env = (do
      let ov ← eval o X.env
      standAt apos.atName
      let (f, first) ← holding [ov] (getMethod ov m pl)
      callWith pos f first (backTo pos (starEach (e :: es) X.env)) (backToKw pos (keywordEach [] X.env))) := by rfl) :
    PE X (.Call (.Attribute o m apos) (e :: es) [] pos) (tMethA X k m W ta t) := by
  refine ⟨fun pins s σ H Q I h => ?_⟩
  refine PySem.W.methodCall_KW (pl := pl) (thn (he.run pins s σ H _ I h) fun u s1 ⟨x, H1, I1, rx, a, C, dx, fs, ex, ea, f, fd, ps, sp, c, hm, F, hb, l, q⟩ => ?_) ht
  subst ex
  obtain rfl : u = Value.ref a := rx
  refine getmeth_ok I1 ea c hm l ?_
  refine PySem.W.callWith_K (first := [.ref a]) (h₀ := X.base) I.ok.mod.kin hm.kp (thn (ha.run pos pins s1 σ H1 _ I1 q) fun us s2 ⟨vs, H2, I2, r, q2⟩ => ⟨I2.kIn, ?_⟩) hst hpl
  exact run_fnS (us := .ref a :: us) (vs := .ref a :: vs) F hr hb (hx σ) I2 (.cons rfl r) q2
theorem pe_methA0 {pl : Sem Bool} (he : PE X o ta) (hr : Room k X.A) (hx : ∀ σ, PassesAt (L2.CX X.prog X.w) X σ (W σ))
    (ht : eval (.Call (.Attribute o m apos) [] [] pos) X.env = (do
      let ov ← eval o X.env
      standAt apos.atName
      let (f, first) ← holding [ov] (getMethod ov m pl)
      callWith pos f first (backTo pos (starEach [] X.env)) (backToKw pos (keywordEach [] X.env))) := by rfl) :
    PE X (.Call (.Attribute o m apos) [] [] pos) (tMethA X k m W ta tNil) := by
  refine ⟨fun pins s σ H Q I h => ?_⟩
  refine PySem.W.methodCall_KW (pl := pl) (thn (he.run pins s σ H _ I h) fun u s1 ⟨x, H1, I1, rx, a, C, dx, fs, ex, ea, f, fd, ps, sp, c, hm, F, hb, l, q⟩ => ?_) ht
  subst ex
  obtain rfl : u = Value.ref a := rx
  refine getmeth_ok I1 ea c hm l ?_
  exact PySem.W.callWith_K0 (first := [.ref a]) I1.kIn hm.kp (run_fnS (us := [.ref a]) (vs := [.ref a]) F hr hb (hx σ) I1 (.cons rfl .nil) q)
theorem meth_of {tab : List (Str × (List D → M D))} {F H : Hp} {x : D} {v : V} {g : List D → M D} (h1 : Same F H) (ht : ∀ q ∈ tab, MOk X.prog X.w X.K X.mg X.base k q.1 m q.2) (h : methOf tab m x = some g) (r : Rep X.K fa F x v) :
    ∃ a C dx fs, v = .ref a ∧ H a = some (.ins C dx fs) ∧ ∃ f fd ps, Cls X.K C ∧ Meth X.K C m f ∧ FnOk X.prog X.w X.K X.mg X.base (L2.CX X.prog X.w) k f fd ps (DSp X.K X.mg g) ∧ Binds X.K fd ps [] ∧ fs.lookup m = none := by
  cases r with
  | @ins a C dx c fs vs ga n r =>
    unfold methOf at h
    dsimp only at h
    cases q : tab.lookup c with
    | none => rw [q] at h; cases h
    | some g0 =>
      rw [q] at h
      dsimp only at h
      cases l : fs.lookup m with
      | some d => rw [l] at h; cases h
      | none =>
        rw [l] at h
        cases h
        obtain ⟨C', f, fd, ps, n', cc, hm, Fn, hb⟩ := ht _ (lookup_mem q)
        have : C' = C := by
          rw [n] at n'
          cases n'
          rfl
        subst this
        exact ⟨a, C', dx, vs, rfl, h1 _ _ ga, f, fd, ps, cc, hm, Fn, hb, (r.look (f := m)).2 l⟩
  | _ => cases h
theorem ed_meth {tab : List (Str × (List D → M D))} {pl : Sem Bool} (hr : Room k X.A) (hx : ∀ σ, PassesAt (L2.CX X.prog X.w) X σ (W σ)) (ht : ∀ q ∈ tab, MOk X.prog X.w X.K X.mg X.base k q.1 m q.2) (ho : ED X fa W o f1) (ha : LD X fa W (e :: es) fl)
    (hst : starEach (e :: es) X.env = (false, eval e X.env) :: starEach es X.env := by rfl) (hpl : (backTo pos (starEach es X.env)).any (·.1) = false := by rfl)
    (hc : eval (.Call (.Attribute o m apos) (e :: es) [] pos) X.env = (do
      let ov ← eval o X.env
      standAt apos.atName
      let (f, first) ← holding [ov] (getMethod ov m pl)
      callWith pos f first (backTo pos (starEach (e :: es) X.env)) (backToKw pos (keywordEach [] X.env))) := by rfl) :
    ED X fa W (.Call (.Attribute o m apos) (e :: es) [] pos) (dMeth tab m f1 fl) := by
  obtain ⟨to, po, ko⟩ := ho
  obtain ⟨ta, pa, ka⟩ := ha
  refine ⟨_, pe_methA po hr hx pa hst hpl hc, fun σ F H ρ s Q h1 h2 h3 h => ?_⟩
  refine ko.then Good.tgt h1 h2 h3 h fun x s1 v F1 H1 e1 o1 r1 v1 h' => ?_
  change Good X fa (W σ) F1 H1 (((M.lift (methOf tab m x)).bind _) s1) Q at h'
  cases q : methOf tab m x with
  | none => rw [q] at h'; exact h'.elim
  | some g =>
    rw [q] at h'
    obtain ⟨a, C, dx, fs, rfl, ea, f, fd, ps, cc, hm, Fn, hb, l⟩ := meth_of e1.fh ht q r1
    refine ⟨a, C, dx, fs, rfl, ea, f, fd, ps, _, cc, hm, Fn, hb, l, ?_⟩
    refine ka.then Good.tgt e1.fh o1 v1 h' fun xs s2 w F2 H2 e2 o2 r2 v2 h'' => ?_
    exact ⟨fa, F2, s2, x :: xs, e2.fh, o2, .cons (r1.mono e2.ff) r2, h''⟩
theorem ed_meth0 {tab : List (Str × (List D → M D))} {pl : Sem Bool} (hr : Room k X.A) (hx : ∀ σ, PassesAt (L2.CX X.prog X.w) X σ (W σ)) (ht : ∀ q ∈ tab, MOk X.prog X.w X.K X.mg X.base k q.1 m q.2) (ho : ED X fa W o f1)
    (hc : eval (.Call (.Attribute o m apos) [] [] pos) X.env = (do
      let ov ← eval o X.env
      standAt apos.atName
      let (f, first) ← holding [ov] (getMethod ov m pl)
      callWith pos f first (backTo pos (starEach [] X.env)) (backToKw pos (keywordEach [] X.env))) := by rfl) :
    ED X fa W (.Call (.Attribute o m apos) [] [] pos) (dMeth tab m f1 lNil) := by
  obtain ⟨to, po, ko⟩ := ho
  refine ⟨_, pe_methA0 po hr hx hc, fun σ F H ρ s Q h1 h2 h3 h => ?_⟩
  refine ko.then Good.tgt h1 h2 h3 h fun x s1 v F1 H1 e1 o1 r1 v1 h' => ?_
  change Good X fa (W σ) F1 H1 (((M.lift (methOf tab m x)).bind _) s1) Q at h'
  cases q : methOf tab m x with
  | none => rw [q] at h'; exact h'.elim
  | some g =>
    rw [q] at h'
    obtain ⟨a, C, dx, fs, rfl, ea, f, fd, ps, cc, hm, Fn, hb, l⟩ := meth_of e1.fh ht q r1
    exact ⟨a, C, dx, fs, rfl, ea, f, fd, ps, _, cc, hm, Fn, hb, l, fa, F1, s1, [x], e1.fh, o1, .cons r1 .nil, h'⟩
end
end DL

set_option Elab.async false
set_option linter.all false
set_option maxRecDepth 100000
set_option maxHeartbeats 2000000
/-! The data layer: instances made: __init__. -/
namespace DL
open PySem PySem.Spec PyProof.Rows L2

/-! ### what does not hang on the address -/
open Classical in
noncomputable def allR {α : Type} (r : Addr → Res α) : Res α := if h : ∃ y, ∀ x, r x = y then Classical.choose h else .bad
theorem allR_eq {α : Type} {r : Addr → Res α} {y : Res α} (h : ∀ x, r x = y) : allR r = y := by
  unfold allR
  have hh : ∃ y, ∀ x, r x = y := ⟨y, h⟩
  rw [dif_pos hh]
  exact (Classical.choose_spec hh 0).symm.trans (h 0)
theorem allR_at {α : Type} {r : Addr → Res α} (h : allR r ≠ .bad) (x : Addr) : r x = allR r := by
  unfold allR at h ⊢
  by_cases hh : ∃ y, ∀ x, r x = y
  · rw [dif_pos hh]
    exact Classical.choose_spec hh x
  · rw [dif_neg hh] at h
    exact absurd rfl h
/-- a body of an __init__ (n names, k parameters, self the first of them) as a function of the address and the arguments: the attributes -/
def slfOf (ρ : Sts) : Option (Addr × Str × List (Str × D)) := match ρ[0]? with
  | some (EV.oi y c fs) => some (y, c, fs)
  | _ => none
def initK (x : Addr) (cls : Str) (p : Fl × Sts) : M (List (Str × D)) := match p.1 with
  | .nx => match slfOf p.2 with
    | some q => if q.1 = x ∧ q.2.1 = cls then M.pure q.2.2 else M.bad
    | none => M.bad
  | _ => M.bad
def initRun (n k : Nat) (cls : Str) (body : Sts → M (Fl × Sts)) (x : Addr) (ds : List D) : M (List (Str × D)) := if ds.length + 1 = k then
    (body (.oi x cls [] :: (ds.map EV.d ++ List.replicate (n - k) .no))).bind (initK x cls)
  else M.bad
/-- an instance is made -/
noncomputable def makeD (cls : Str) (g : Addr → List D → M (List (Str × D))) : List D → M D := fun ds s => (allR fun x => g x ds s).bnd fun fs s' => .ok (.ins cls fs) s'
theorem makeD_eq {cls : Str} {g : Addr → List D → M (List (Str × D))} {ds : List D} {s s' : FS} {fs : List (Str × D)} (h : ∀ x, g x ds s = .ok fs s') : makeD cls g ds s = .ok (.ins cls fs) s' := by
  unfold makeD
  rw [allR_eq h]
  rfl
theorem makeD_err {cls : Str} {g : Addr → List D → M (List (Str × D))} {ds : List D} {s s' : FS} {e : Exc} (h : ∀ x, g x ds s = .err e s') : makeD cls g ds s = .err e s' := by
  unfold makeD
  rw [allR_eq h]
  rfl

/-! ### the promise of an __init__ -/
def GoodI' (K : PySem.W.Frag) (mg : Str → Option Value) (fa : Option FA) (E : XK) (cls : Str) (x : Addr) (F H : Hp) (r : Res (List (Str × D))) (Q : VK) : Prop :=
  match r with
  | .bad => False
  | .ok fs s' => ∀ F' H', Ext fa F H F' H' → FeedOk K fa F' H' s' → Rep K fa F' (.ins cls fs) (.ref x) → Q .non H'
  | .err e s' => ∀ c dd F' H', Ext fa F H F' H' → FeedOk K fa F' H' s' → RepX K mg fa F' H' e c dd → E c dd H'
def DSpI (K : PySem.W.Frag) (mg : Str → Option Value) (cls : Str) (g : Addr → List D → M (List (Str × D))) : Sp := fun vs H Q E =>
  ∃ (fa : Option FA) (F H1 : Hp) (s : FS) (ds : List D) (x C dx : Addr) (ws : List V), vs = .ref x :: ws ∧ H1 x = none ∧ H1 dx = none ∧ dx ≠ x ∧ H = upd (upd H1 dx (.own x)) x (.ins C dx []) ∧ PySem.W.nsIn K mainGlobals cls = some (some (.ref C)) ∧
    Same F H1 ∧ FeedOk K fa F H1 s ∧ RepL K fa F ds ws ∧ GoodI' K mg fa E cls x F H1 (g x ds s) Q
section
variable {K : PySem.W.Frag} {fa : Option FA} {F H : Hp}
/-- an object is laid that is not known yet -/
theorem Ext.newH {p : Addr} {o : HO} {F' H' : Hp} (e : Ext fa F H F' H') (hp : H' p = none) : Ext fa F H F' (upd H' p o) := by
  have ne : ∀ b u, H' b = some u → b ≠ p := fun b u q => ne_of_none q hp
  refine ⟨e.ff, fun b u q => ?_, fun b u q n => ?_, e.fr, fun b q => ?_⟩
  · rw [upd_ne (ne b u (e.fh b u q))]; exact e.fh b u q
  · rw [upd_ne (ne b u (e.hh b u q n))]; exact e.hh b u q n
  · by_cases hb : b = p
    · subst hb; rw [upd_same]; simp
    · rw [upd_ne hb]; exact e.al b q
theorem FeedOk.newH {p : Addr} {o : HO} {s : FS} (x : FeedOk K fa F H s) (hp : H p = none) : FeedOk K fa F (upd H p o) s := fun φ e => by
  obtain ⟨h1, h0, h2, h3⟩ := x φ e
  exact ⟨h1, h0, by rw [upd_ne (ne_of_none h2 hp)]; exact h2, h3⟩
end
section
variable {P : Program} {w : World} {K : PySem.W.Frag} {mg : Str → Option Value} {base : Heap}
theorem SOk.startI {fa : Option FA} {F H1 : Hp} {s : FS} {N : List Str} {ds : List D} {vs : List V} {x C dx : Addr} {cls : Str} (h1 : Same F H1) (h2 : FeedOk K fa F H1 s) (r : RepL K fa F ds vs) (hl : ds.length + 1 ≤ N.length)
    (hx : H1 x = none) (hd : H1 dx = none) (ne : dx ≠ x) (hn : PySem.W.nsIn K mainGlobals cls = some (some (.ref C))) :
    SOk K fa F F H1 F (upd (upd H1 dx (.own x)) x (.ins C dx [])) (fun _ => x) (L2.start N (.ref x :: vs)) (.oi x cls [] :: (ds.map EV.d ++ List.replicate (N.length - (ds.length + 1)) .no)) s := by
  have e1 : Ext fa F H1 F (upd H1 dx (.own x)) := (Ext.refl h1).newH hd
  have hx1 : (upd H1 dx (.own x)) x = none := by rw [upd_ne (Ne.symm ne)]; exact hx
  have e2 : Ext fa F H1 F (upd (upd H1 dx (.own x)) x (.ins C dx [])) := e1.newH hx1
  have low : ∀ (i : Nat) ev, (ds.map EV.d ++ List.replicate (N.length - (ds.length + 1)) EV.no)[i]? = some ev → (∃ d, ds[i]? = some d ∧ ev = .d d) ∨ ev = .no := fun i ev h => by
    by_cases hi : i < ds.length
    · rw [List.getElem?_append_left (by simpa using hi), List.getElem?_map] at h
      cases q : ds[i]? with
      | none => rw [q] at h; cases h
      | some d => rw [q] at h; cases h; exact .inl ⟨d, rfl, rfl⟩
    · rw [List.getElem?_append_right (by simp; omega), List.getElem?_replicate] at h
      split at h
      · cases h; exact .inr rfl
      · cases h
  refine ⟨e2, Same.refl _, (h2.newH hd).newH hx1, by unfold L2.start; simp [r.length], fun i ev h => ?_, fun i j e e' h h' ho ho' _ => ?_⟩
  · cases i with
    | zero =>
      cases h
      refine ⟨rfl, h1.free hx, hx, fun φ e z => ?_, rfl, C, dx, [], upd_same, hn, .nil⟩
      obtain ⟨_, _, g, _⟩ := h2 φ e
      rw [z, hx] at g
      cases g
    | succ i =>
      rcases low i ev h with ⟨d, hd', rfl⟩ | rfl
      · obtain ⟨v, hv, rv⟩ := r.get' hd'
        refine ⟨v, ?_, rv⟩
        unfold L2.start
        have hi : i < vs.length := (List.getElem?_eq_some_iff.mp hv).1
        rw [List.getElem?_append_left (by simpa using hi), List.getElem?_map, List.getElem?_cons_succ, hv]
        rfl
      · trivial
  · have z : ∀ (i : Nat) ev, (EV.oi x cls [] :: (ds.map EV.d ++ List.replicate (N.length - (ds.length + 1)) EV.no))[i]? = some ev → ev.own = true → i = 0 := fun i ev h ho => by
      cases i with
      | zero => rfl
      | succ i => rcases low i ev h with ⟨d, hd, rfl⟩ | rfl <;> cases ho
    rw [z i e h ho, z j e' h' ho']
theorem dspI_len {n k : Nat} {cls : Str} {body : Sts → M (Fl × Sts)} {vs : List V} {H : Hp} {Q : VK} {E : XK} (h : DSpI K mg cls (initRun n k cls body) vs H Q E) : vs.length = k := by
  obtain ⟨fa, F, H1, s, ds, x, C, dx, ws, rfl, _, _, _, _, _, _, _, r, g⟩ := h
  rw [List.length_cons, ← r.length]
  by_cases e : ds.length + 1 = k
  · exact e
  · unfold initRun at g
    rw [if_neg e] at g
    exact g.elim
/-- the rule of defs, however its defaults stand -/
def OkB (P : Program) (w : World) (K : PySem.W.Frag) (mg : Str → Option Value) (base : Heap) (qual : Str) (st : Stmt) (f : Addr) (fd : FuncData) : Prop := ∀ (N ps : List Str) (k : Nat) (sp : Sp), FnScope N ps (defScope st) → (∀ vs H Q E, sp vs H Q E → vs.length = ps.length) →
    (∀ (cdv : Value) (A : Around) (outer : List Env) (s : Shared) (H : Hp) (vs : List V) (Q : VK) (E : XK), Room k (A.deeper (envOfC qual (defScope st) s.heap.objs.size f cdv)) → sp vs H Q E →
      ∃ t, PSs (cxOf (L2.CX P w) P w K mg base N qual (defScope st) f cdv A outer s H E) (defBody st) t ∧ t { nx := fun _ H' => Q .non H', rt := Q } (start N vs) H) → FnOk P w K mg base (L2.CX P w) (k + 1) f fd ps sp
theorem okb_fun {x qual : Str} {st : Stmt} {f : Addr} {fd : FuncData} (F : Fun K x qual st f fd) : OkB P w K mg base qual st f fd := fun _ _ _ _ S len hb => F.okX S len hb
theorem okb_funD {x qual : Str} {st : Stmt} {dvs : List V} {kws : List (Str × V)} {f : Addr} {fd : FuncData} (F : FunD K x qual (defArgs st) (defBody st) (defScope st) dvs kws f fd) : OkB P w K mg base qual st f fd := fun _ _ _ _ S len hb => F.ok S len hb
/-- THE RULE of an __init__ -/
theorem fn_init {qual cls : Str} {st : Stmt} {f : Addr} {fd : FuncData} {N ps : List Str} {k : Nat} {body : Sts → M (Fl × Sts)} (F : OkB P w K mg base qual st f fd) (S : FnScope N ps (defScope st)) (hN : ps.length ≤ N.length)
    (hbody : ∀ (cdv : Value) (A : Around) (outer : List Env) (s : Shared) (H : Hp) (E : XK) (fa : Option FA), Room k (A.deeper (envOfC qual (defScope st) s.heap.objs.size f cdv)) →
      SSJ (cxOf (L2.CX P w) P w K mg base N qual (defScope st) f cdv A outer s H E) fa E (defBody st) body) :
    FnOk P w K mg base (L2.CX P w) (k + 1) f fd ps (DSpI K mg cls (initRun N.length ps.length cls body)) := by
  refine F N ps k _ S (fun vs H Q E h => dspI_len h) fun cdv A outer s H vs Q E hr h => ?_
  obtain ⟨fa, Fz, H1, fs, ds, x, C, dx, ws, rfl, hx, hd, ne, rfl, hn, h1, h2, r, g⟩ := h
  obtain ⟨t, p, kk⟩ := hbody cdv A outer s _ E fa hr
  refine ⟨t, p, ?_⟩
  unfold initRun at g
  by_cases e : ds.length + 1 = ps.length
  · rw [if_pos e] at g
    have S0 := SOk.startI (N := N) (cls := cls) h1 h2 r (by omega) hx hd ne hn
    rw [e] at S0
    refine kk Fz Fz H1 Fz _ _ _ _ fs _ S0 ?_
    change GoodI' K mg fa E cls x Fz H1 ((body (.oi x cls [] :: (ds.map EV.d ++ List.replicate (N.length - ps.length) .no)) fs).bnd _) Q at g
    generalize body (.oi x cls [] :: (ds.map EV.d ++ List.replicate (N.length - ps.length) .no)) fs = rr at g
    cases rr with
    | bad => exact g
    | err e s' => exact g
    | ok q s' =>
      obtain ⟨fl, ρ'⟩ := q
      cases fl with
      | nx =>
        intro σ' F' H' A' S'
        dsimp only at g S'
        change GoodI' K mg fa E cls x Fz H1 ((match slfOf ρ' with
          | some q => if q.1 = x ∧ q.2.1 = cls then M.pure q.2.2 else M.bad
          | none => M.bad) s') Q at g
        unfold slfOf at g
        cases e0 : ρ'[0]? with
        | none => rw [e0] at g; exact g.elim
        | some ev =>
          rw [e0] at g
          cases ev with
          | oi y c fs1 =>
            dsimp only at g
            by_cases hy : y = x ∧ c = cls
            · rw [if_pos hy] at g
              obtain ⟨rfl, rfl⟩ := hy
              obtain ⟨w0, _, _, _, px, _⟩ := S'.slot 0 _ e0
              obtain ⟨F2, S2⟩ := S'.freeze e0
              obtain ⟨v, w1, rv⟩ := S2.slot 0 (.d (.ins c fs1)) (by rw [List.getElem?_set_self (List.getElem?_eq_some_iff.mp e0).1]; rfl)
              have hv : v = .ref y := by
                rw [w0, px] at w1
                cases w1
                rfl
              rw [hv] at rv
              exact g F2 H' S2.ext S2.fd rv
            · rw [if_neg hy] at g
              exact g.elim
          | _ => exact g.elim
      | rt d => exact g.elim
      | bk => exact g.elim
      | ct => exact g.elim
  · rw [if_neg e] at g
    exact g.elim
end

/-! ### a call that makes an instance -/
/-- the class of that name, called with n values and keywords ks: perm puts them in the parameters' order; g tells the attributes -/
structure Mal (P : Program) (w : World) (K : PySem.W.Frag) (mg : Str → Option Value) (base : Heap) (k : Nat) (cls : Str) (n : Nat) (ks : List Str) (perm : List D → List D → List D) (g : Addr → List D → M (List (Str × D))) : Prop where
  ex : ∃ C f fd ps gF gV, PySem.W.nsIn K mainGlobals cls = some (some (.ref C)) ∧ mg cls = some (.ref C) ∧ Mk K C f ∧ FnOk P w K mg base (L2.CX P w) k f fd ps (DSpI K mg cls g) ∧ KBn K fd ps (n + 1) ks gF gV ∧
    ∀ (fa : Option FA) (F : Hp) (x : Addr) (vs zs : List V) (ds es : List D), vs.length = n → zs.length = ks.length → RepL K fa F ds vs → RepL K fa F es zs → ∃ ws, gV (.ref x :: vs) zs = .ref x :: ws ∧ RepL K fa F (perm ds es) ws
noncomputable def dMake (cls : Str) (n m : Nat) (perm : List D → List D → List D) (g : Addr → List D → M (List (Str × D))) (fl fk : Env' → M (List D)) : Env' → M D := fun ρ => (fl ρ).bind fun xs => (fk ρ).bind fun zs => if xs.length = n ∧ zs.length = m then makeD cls g (perm xs zs) else M.bad
section
variable {X : Cx} {fa : Option FA} {W : L2.St → XK} {e : Expr} {es : List Expr} {pos p : Pos} {fl fk : Env' → M (List D)} {k n : Nat} {t tk : TA} {kws : List Keyword}
def tMakeS (C : Addr) (n m : Nat) (sp : Sp) (gV : List V → List V → List V) (E : L2.St → XK) (t tk : TA) : TE := fun σ H Q => t σ H fun vs H1 => tk σ H1 fun zs H2 => vs.length = n ∧ zs.length = m ∧
  ∀ x dx, H2 x = none → H2 dx = none → dx ≠ x → sp (gV (.ref x :: vs) zs) (upd (upd H2 dx (.own x)) x (.ins C dx [])) (fun v H3 => v = .non ∧ Q (.ref x) H3) (E σ)
theorem run_makeNS {pins : List (Addr × Obj)} {σ : L2.St} {H : Hp} {s : Shared} {Q : VK} {us ws : List Value} {vs zs : List V} {C f : Addr} {fd : FuncData} {ps ks : List Str} {sp : Sp} {E : XK} {g : List Value → List Value → List Value} {gV : List V → List V → List V} (M : Mk X.K C f) (F : FnOk X.prog X.w X.K X.mg X.base (L2.CX X.prog X.w) k f fd ps sp) (hr : Room (k + 1) X.A) (hb : KBn X.K fd ps (n + 1) ks g gV)
    (hx : PassesAt (L2.CX X.prog X.w) X σ E) (I : Inv X pins σ H s) (r : Vals vs us) (rz : Vals zs ws) (l1 : vs.length = n) (l2 : zs.length = ks.length)
    (h : ∀ x dx, H x = none → H dx = none → dx ≠ x → sp (gV (.ref x :: vs) zs) (upd (upd H dx (.own x)) x (.ins C dx [])) (fun v H2 => v = .non ∧ Q (.ref x) H2) E) :
    wpAny (model X.prog X.w) X.A (call (.ref C) us (ks.zip ws)) (EP X pins σ Q) X.xe s := by
  have hq := h (s.heap.objs.size + 1) s.heap.objs.size (I.hok.fresh (Nat.le_succ _)) (I.hok.fresh (Nat.le_refl _)) (Nat.ne_of_lt (Nat.lt_succ_self _))
  have I2 := Inv.made (C := C) I
  have r1 : Vals (V.ref (s.heap.objs.size + 1) :: vs) (Value.ref (s.heap.objs.size + 1) :: us) := .cons rfl r
  have r2 := hb.rel r1 rz
  have e1 : (Value.ref (s.heap.objs.size + 1) :: us).length = n + 1 := r1.length.symm.trans (congrArg Nat.succ l1)
  have e2 : ws.length = ks.length := rz.length.symm.trans l2
  refine wpAny_call (make_map (f := f) I.kIn M.makes M.init (beq_iff_eq.mp M.fn) (codeAny_mono (F.run _ X.stack _ _ ⟨Value.ref (s.heap.objs.size + 1) :: us, ks.zip ws⟩ (g (Value.ref (s.heap.objs.size + 1) :: us) ws) _ _ E (hr.make C us (ks.zip ws))
    (I2.env0.make C us (ks.zip ws)) (hb.to _ (Value.ref (s.heap.objs.size + 1) :: us) ws I2.kIn e1 e2) r2 hq) fun r s' hq' => ?_))
  cases r with
  | error e => exact hx pins _ _ e s' I2 hq'
  | ok fl =>
    cases fl with
    | ret u =>
      obtain ⟨v, H', I3, rv, ev, q3⟩ := I2.after hq'
      subst ev
      exact ⟨rv, ⟨V.ref (s.heap.objs.size + 1), H', I3, rfl, q3⟩⟩
    | next => exact False.elim hq'
    | brk => exact False.elim hq'
    | cont => exact False.elim hq'
theorem pe_makeNS {C f : Addr} {fd : FuncData} {ps ks : List Str} {sp : Sp} {E : L2.St → XK} {g : List Value → List Value → List Value} {gV : List V → List V → List V} {x : Str} (M : Mk X.K C f) (F : FnOk X.prog X.w X.K X.mg X.base (L2.CX X.prog X.w) k f fd ps sp) (hr : Room (k + 1) X.A) (hg : Gl X x) (hm : X.mg x = some (.ref C)) (hb : KBn X.K fd ps (n + 1) ks g gV) (hx : ∀ σ, PassesAt (L2.CX X.prog X.w) X σ (E σ))
    (ha : PA X (e :: es) t) (hkw : PK X kws tk) (hall : (backToKw pos (keywordEach kws X.env)).all (·.1.isSome) = true := by rfl) (hks : (backToKw pos (keywordEach kws X.env)).filterMap (·.1) = ks := by rfl)
    (hdb : (x == ("__debug__" : Str)) = false := by decide) (he : starEach (e :: es) X.env = (false, eval e X.env) :: starEach es X.env := by rfl)
    (hpl : ((backTo pos (starEach (e :: es) X.env)).any (·.1) || (backToKw pos (keywordEach kws X.env)).any (·.1.isNone)) = false := by rfl) :
    PE X (.Call (.Name x p) (e :: es) kws pos) (tMakeS C n ks.length sp gV E t tk) := by
  refine ⟨fun pins s σ H Q I h => ?_⟩
  refine wpAny_Call_Name_kw (ld_glob I hg hm ?_ hdb)
  refine PySem.W.callWith_KW (h₀ := X.base) I.ok.mod.kin M.kp hall (thn (ha.run pos pins s σ H _ I h) fun us s1 ⟨vs, H1, I1, r, q⟩ => ?_) hpl he
  refine thn (hkw.run pos pins s1 σ H1 _ I1 q) fun ws s2 ⟨zs, H2, I2, rz, l1, l2, q2⟩ => ⟨I2.kIn, ?_⟩
  rw [hks]
  exact run_makeNS M F hr hb (hx σ) I2 r rz l1 l2 q2
theorem ed_make {cls : Str} {ks : List Str} {perm : List D → List D → List D} {g : Addr → List D → M (List (Str × D))} (C : Mal X.prog X.w X.K X.mg X.base k cls n ks perm g) (hr : Room (k + 1) X.A) (hx : ∀ σ, PassesAt (L2.CX X.prog X.w) X σ (W σ)) (ha : LD X fa W (e :: es) fl) (hk : KD X fa W kws fk) (hg : Gl X cls := by rfl)
    (hall : (backToKw pos (keywordEach kws X.env)).all (·.1.isSome) = true := by rfl) (hks : (backToKw pos (keywordEach kws X.env)).filterMap (·.1) = ks := by rfl)
    (hdb : (cls == ("__debug__" : Str)) = false := by decide) (he : starEach (e :: es) X.env = (false, eval e X.env) :: starEach es X.env := by rfl)
    (hpl : ((backTo pos (starEach (e :: es) X.env)).any (·.1) || (backToKw pos (keywordEach kws X.env)).any (·.1.isNone)) = false := by rfl) :
    ED X fa W (.Call (.Name cls p) (e :: es) kws pos) (dMake cls n ks.length perm g fl fk) := by
  obtain ⟨C, f, fd, ps, gF, gV, hns, hm, mk, Fn, hb, hp⟩ := C.ex
  obtain ⟨ta, pa, ka⟩ := ha
  obtain ⟨tk, pk, kk⟩ := hk
  refine ⟨_, pe_makeNS mk Fn hr hg hm hb hx pa pk hall hks hdb he hpl, fun σ F H ρ s Q h1 h2 h3 h => ?_⟩
  refine ka.then Good.tgt h1 h2 h3 h fun xs s1 vs F1 H1 e1 o1 r1 v1 h' => ?_
  refine kk.then Good.tgt e1.fh o1 v1 h' fun zs s2 us F2 H2 e2 o2 r2 v2 h'' => ?_
  by_cases hl : xs.length = n ∧ zs.length = ks.length
  · rw [if_pos hl] at h''
    have l1 : vs.length = n := by rw [← r1.length]; exact hl.1
    have l2 : us.length = ks.length := by rw [← r2.length]; exact hl.2
    refine ⟨l1, l2, fun x dx hx' hd ne => ?_⟩
    obtain ⟨ws, ew, rw'⟩ := hp fa F2 x vs us xs zs l1 l2 (r1.mono e2.ff) r2
    rw [ew]
    refine ⟨fa, F2, H2, s2, perm xs zs, x, C, dx, ws, rfl, hx', hd, ne, rfl, hns, e2.fh, o2, rw', ?_⟩
    unfold makeD at h''
    have hnb : (allR fun x => g x (perm xs zs) s2) ≠ .bad := fun z => by
      change Good X fa (W σ) F2 H2 ((allR fun x => g x (perm xs zs) s2).bnd _) Q at h''
      rw [z] at h''
      exact h''.elim
    have ea := allR_at hnb x
    change Good X fa (W σ) F2 H2 ((allR fun x => g x (perm xs zs) s2).bnd _) Q at h''
    rw [← ea] at h''
    generalize g x (perm xs zs) s2 = rr at h''
    cases rr with
    | bad => exact h''.elim
    | ok fs s3 => exact fun F' H' ex fo rv => ⟨rfl, h'' _ F' H' ex fo rv⟩
    | err e s3 => exact h''
  · rw [if_neg hl] at h''
    exact h''.elim
end
end DL

set_option Elab.async false
set_option linter.all false
set_option maxRecDepth 100000
set_option maxHeartbeats 2000000
/-! The data layer: attributes of self stored. -/
namespace DL
open PySem PySem.Spec PyProof.Rows L2
def NoA (K : PySem.W.Frag) (c f : Str) : Prop := ∃ C, PySem.W.nsIn K mainGlobals c = some (some (.ref C)) ∧ Cls K C ∧ NoAttr K C f
def putAll : List Str → List D → List (Str × D) → List (Str × D)
  | f :: r, x :: xs, fs => putAll r xs (putFD f x fs)
  | _, _, fs => fs
/-- self.f, .. = e, .. -/
def gFlds (i : Nat) (cls : Str) (fns : List Str) (fl : Sts → M (List D × Sts)) : Sts → M (Fl × Sts) := fun ρ => (fl ρ).bind fun q => match q.2[i]? with
  | some (EV.oi y c fs) => if q.1.length = fns.length ∧ fs.length + fns.length < 1000 ∧ c = cls then M.pure (.nx, q.2.set i (.oi y c (putAll fns q.1 fs))) else M.bad
  | _ => M.bad
/-- self.f = e -/
def gFld (i : Nat) (cls : Str) (f : Str) (fv : Sts → M (EV × Sts)) : Sts → M (Fl × Sts) := fun ρ => (fv ρ).bind fun p => match p.1, p.2[i]? with
  | .d x, some (EV.oi y c fs) => if fs.length < 1000 ∧ c = cls then M.pure (.nx, p.2.set i (.oi y c (putFD f x fs))) else M.bad
  | _, _ => M.bad
section
variable {X : Cx} {fa : Option FA} {W : XK} {a b c e o : Expr} {es rest : List Expr} {pos p apos cpos pos' : Pos} {f fv : Sts → M (EV × Sts)} {fl : Sts → M (List D × Sts)}
/-- the write itself -/
theorem SOk.writeF {B F0 H0 F H : Hp} {A : Nat → Addr} {σ : L2.St} {ρ : Sts} {s : FS} {i : Nat} {y : Addr} {cls fn : Str} {fs : List (Str × D)} {x : D} {v : V} (S : SOk X.K fa B F0 H0 F H A σ ρ s) (h : ρ[i]? = some (.oi y cls fs)) (r : Rep X.K fa F x v) (hn : NoA X.K cls fn) (hl : fs.length < 1000) :
    ∃ a C dx vs, σ[i]? = some (some (.ref a)) ∧ H a = some (.ins C dx vs) ∧ Cls X.K C ∧ NoAttr X.K C fn ∧ vs.length < 1000 ∧ SOk X.K fa B F0 H0 F (upd H a (.ins C dx (putF fn v vs))) A σ (ρ.set i (.oi y cls (putFD fn x fs))) s := by
  obtain ⟨w0, f0, g0, n0, px, C, dx, vs, q0, nn, r0⟩ := S.slot i _ h
  obtain ⟨C', n', cc, na⟩ := hn
  have : C' = C := by
    rw [nn] at n'
    cases n'
    rfl
  subst this
  exact ⟨A i, C', dx, vs, join_some w0, q0, cc, na, by rw [r0.length]; exact hl, S.write (ev' := .oi y cls (putFD fn x fs)) h rfl rfl ⟨rfl, f0, g0, n0, px, C', dx, _, upd_same, nn, r0.put r⟩⟩
theorem sj_fld {i : Nat} {x cls fn : Str} (hn : NoA X.K cls fn) (hv : VJ X fa W e fv) (ho : PE X (.Name x p) (tVar i)) (hs : swapsWith e (some (.Attribute (.Name x p) fn pos')) pos.line X.env = pure false := by rfl) :
    SJ X fa W (.Assign [.Attribute (.Name x p) fn pos'] e pos) (gFld i cls fn fv) := by
  obtain ⟨tv, pv', kv⟩ := hv
  refine ⟨_, ps_fld ho pv' hs, fun B F0 H0 F H A σ ρ s Dn S hgood => ?_⟩
  refine kv.then (vs := []) (evs := []) GoodS.tgt S.len (by rw [app0, app0]; exact S) hgood fun ev ρ1 s1 w F1 H1 A1 S1 hl1 h1 => ?_
  rw [app0, app0] at S1
  dsimp only at h1
  cases ev with
  | d y =>
    cases e1 : ρ1[i]? with
    | none => rw [e1] at h1; exact h1.elim
    | some ev1 =>
      cases ev1 with
      | oi z c fs =>
        rw [e1] at h1
        dsimp only at h1
        by_cases hz : fs.length < 1000 ∧ c = cls
        · rw [if_pos hz] at h1
          obtain ⟨hz, rfl⟩ := hz
          have rw1 : Rep X.K fa F1 y w := by
            have S1' : SOk X.K fa B F0 H0 F1 H1 A1 (σ ++ [w].map some) (ρ1 ++ [y].map EV.d) s1 := S1
            have rl := S1'.top hl1
            cases rl with
            | cons r _ => exact r
          have S2 := S1.drop hl1
          obtain ⟨a, C, dx, vs, w0, q0, cc, na, lz, S3⟩ := S2.writeF e1 rw1 hn hz
          exact ⟨_, w0, a, C, dx, vs, rfl, q0, cc, na, lz, h1 σ F1 _ A1 S3⟩
        · rw [if_neg hz] at h1
          exact h1.elim
      | _ => rw [e1] at h1; exact h1.elim
  | _ => exact h1.elim

/-! ### several attributes -/
def gAt (K : PySem.W.Frag) (ta : TE) (f : Str) : TG := fun v σ H Q => ta σ H fun x H2 => ∃ a C dx fs, x = .ref a ∧ H2 a = some (.ins C dx fs) ∧ Cls K C ∧ NoAttr K C f ∧ fs.length < 1000 ∧ Q σ (upd H2 a (.ins C dx (putF f v fs)))
theorem pg_at {ta : TE} {f : Str} (ho : PE X o ta) : PG X (.Attribute o f pos) (gAt X.K ta f) := by
  refine ⟨fun pins s σ H v u Q I r h => ?_⟩
  rw [show assign (.Attribute o f pos) X.env u = (do
    let ov ← holding [u] (eval o X.env)
    standAt pos.atName
    holding [u, ov] (setAttr ov f u)
    release [u, ov] []) from rfl]
  refine wpAny_bind (wpAny_holding (thn (ho.run pins s σ H _ I h) fun ov s2 ⟨x, H2, I2, rx, a, C, dx, fs, ex, ea, c, n, l, q2⟩ => ?_))
  subst ex
  obtain rfl : ov = Value.ref a := rx
  refine wpAny_bind (wpAny_standAt (wpAny_bind (wpAny_holding (setattr_ok I2 ea c n l r fun s3 I3 => ?_))))
  exact wpAny_release ⟨σ, _, I3, q2⟩
/-- targets self.f, .. -/
def AtTs (X : Cx) (i : Nat) (cls : Str) (es : List Expr) (fns : List Str) : Prop := ∃ gs, PGs X es gs ∧ ∀ (fa : Option FA) (B F0 H0 F H : Hp) (A : Nat → Addr) (σ : L2.St) (ρ : Sts) (s : FS) (y : Addr) (fs : List (Str × D)) (ds : List D) (ws : List V) (Q : L2.St → Hp → Prop),
  SOk X.K fa B F0 H0 F H A σ ρ s → ρ[i]? = some (.oi y cls fs) → RepL X.K fa F ds ws → ds.length = fns.length → fs.length + fns.length < 1000 → (∀ H', SOk X.K fa B F0 H0 F H' A σ (ρ.set i (.oi y cls (putAll fns ds fs))) s → Q σ H') → gs ws σ H Q
theorem att_nil {i : Nat} {cls : Str} : AtTs X i cls [] [] := by
  refine ⟨_, pgs_nil, fun fa B F0 H0 F H A σ ρ s y fs ds ws Q S h r l z q => ?_⟩
  cases r with
  | nil =>
    refine ⟨rfl, q H ?_⟩
    have : ρ.set i (.oi y cls (putAll [] [] fs)) = ρ := List.ext_getElem? fun j => by
      by_cases hj : i = j
      · subst hj
        rw [List.getElem?_set_self (List.getElem?_eq_some_iff.mp h).1, h]
        rfl
      · rw [List.getElem?_set_ne hj]
    rw [this]
    exact S
  | cons _ _ => cases l
theorem att_cons {i : Nat} {x cls fn : Str} {fns : List Str} (hn : NoA X.K cls fn) (ho : PE X (.Name x p) (tVar i)) (h2 : AtTs X i cls es fns) (hs : (assignEach (.Attribute (.Name x p) fn pos :: es) X.env).map (·.2) = assign (.Attribute (.Name x p) fn pos) X.env :: (assignEach es X.env).map (·.2) := by rfl) :
    AtTs X i cls (.Attribute (.Name x p) fn pos :: es) (fn :: fns) := by
  obtain ⟨gs, pgs, kk⟩ := h2
  refine ⟨_, pgs_cons (pg_at ho) pgs hs, fun fa B F0 H0 F H A σ ρ s y fs ds ws Q S h r l z q => ?_⟩
  cases r with
  | nil => cases l
  | @cons d v ds vs r t =>
    simp only [List.length_cons] at l z
    obtain ⟨a, C, dx, us, w0, q0, cc, na, lz, S3⟩ := S.writeF h r hn (by omega)
    refine ⟨v, vs, rfl, _, w0, a, C, dx, us, rfl, q0, cc, na, lz, ?_⟩
    refine kk fa B F0 H0 F _ A σ _ s y (putFD fn d fs) ds vs Q S3 (by rw [List.getElem?_set_self (List.getElem?_eq_some_iff.mp h).1]) t (by omega) (by have := putFD_len (f := fn) (x := d) fs; omega) fun H' S4 => q H' ?_
    rw [List.set_set] at S4
    exact S4
theorem sj_flds {i k k2 : Nat} {cls : Str} {fns : List Str} {tp tp2 : Pos} {ts : List Expr} (hc : X.calm = true) (ht : AtTs X i cls ts fns) (hl : LVJ X fa W es fl)
    (hs : swapsWithSole [.Tuple ts k tp] (.Tuple es k2 tp2) pos.line X.env = pure false := by rfl) (hw : swappedStores [.Tuple ts k tp] (.Tuple es k2 tp2) X.env = pure none := by rfl)
    (h1 : (assignEach [.Tuple ts k tp] X.env).map (·.2) = [assign (.Tuple ts k tp) X.env] := by rfl)
    (hn : (assignEach ts X.env).length = fns.length := by rfl) (hst : (assignEach ts X.env).findIdx? (·.1) = none := by rfl) (hsz : fns.length ≤ 100 := by decide) :
    SJ X fa W (.Assign [.Tuple ts k tp] (.Tuple es k2 tp2) pos) (gFlds i cls fns fl) := by
  obtain ⟨gs, pgs, kk⟩ := ht
  obtain ⟨tl, pl, kl⟩ := hl
  refine ⟨_, ps_asg (pe_tup pl) (pg_tup hc pgs hn hst) hs hw h1, fun B F0 H0 F H A σ ρ s Dn S hgood => ?_⟩
  refine kl.then (vs := []) (evs := []) GoodS.tgt S.len (by rw [app0, app0]; exact S) hgood fun ds ρ1 s1 ws F1 H1 A1 S1 hl1 hw1 r1 h1' => ?_
  rw [app0, app0] at S1
  dsimp only at h1'
  cases e1 : ρ1[i]? with
  | none => rw [e1] at h1'; exact h1'.elim
  | some ev1 =>
    cases ev1 with
    | oi z c fs =>
      rw [e1] at h1'
      dsimp only at h1'
      by_cases hz : ds.length = fns.length ∧ fs.length + fns.length < 1000 ∧ c = cls
      · rw [if_pos hz] at h1'
        obtain ⟨z1, z2, rfl⟩ := hz
        refine ⟨by rw [hw1, z1, sizeLine_eq]; omega, fun q hq => ?_⟩
        refine ⟨q, ws, rfl, SqT.of upd_same, by rw [hw1]; exact z1, ?_⟩
        have S2 : SOk X.K fa B F0 H0 F1 (upd H1 q (.tup ws)) A1 σ ρ1 s1 := S1.step ((Ext.refl S1.ext.fh).newH hq) (S1.fd.newH hq)
        exact kk fa B F0 H0 F1 _ A1 σ ρ1 s1 z fs ds ws _ S2 e1 r1 z1 z2 fun H' S3 => h1' σ F1 H' A1 S3
      · rw [if_neg hz] at h1'
        exact h1'.elim
    | _ => rw [e1] at h1'; exact h1'.elim
end
end DL

set_option Elab.async false
set_option linter.all false
set_option maxRecDepth 100000
set_option maxHeartbeats 2000000
/-! Sets of one kind of key (ints or texts), with the set's table known to be walkable: made, added to, collected. -/
namespace SG
open PySem PySem.Spec PyProof.Rows L2

/-- a kind of keys: what key a value is, how a key stands as a value -/
structure KK (P : Program) (w : World) (κ : Type) [DecidableEq κ] where
  knd : KeyKind P w κ
  key : Value → κ
  emb : κ → V
  is_key : ∀ {k v}, knd.is k v = true → key v = k
  of_rel : ∀ {k v}, RelV (emb k) v → knd.is k v = true ∧ v.scannable = true
  to_rel : ∀ {k v}, knd.is k v = true → RelV (emb k) v
def kkInt (P : Program) (w : World) : KK P w Int where
  knd := intKind P w
  key := fun v => match v with | .int k _ => k | _ => 0
  emb := V.int
  is_key := fun {k v} h => by
    obtain ⟨t, rfl⟩ := Value.isInt_shape h
    rfl
  of_rel := fun {k v} ⟨t, h⟩ => by
    subst h
    exact ⟨intKind_is P w k t, rfl⟩
  to_rel := fun {k v} h => Value.isInt_shape h
theorem strKind_is (P : Program) (w : World) (x : Str) (t : Tok) : (strKind P w).is x (.str x t) = true := by
  show Value.isStrOf x (.str x t) = true
  simp [Value.isStrOf]
def kkStr (P : Program) (w : World) : KK P w Str where
  knd := strKind P w
  key := fun v => match v with | .str x _ => x | _ => Str.empty
  emb := V.str
  is_key := fun {k v} h => by
    obtain ⟨t, rfl⟩ := Value.isStrOf_shape h
    rfl
  of_rel := fun {k v} ⟨t, h⟩ => by
    subst h
    exact ⟨strKind_is P w k t, rfl⟩
  to_rel := fun {k v} h => Value.isStrOf_shape h

section
variable {P : Program} {w : World} {κ : Type} [DecidableEq κ] {kk : KK P w κ} {h h' : Heap} {a : Addr} {S : κ → Bool} {n : Nat}
abbrev Entry := Int × Value
/-- an entry of the table that is a key of that kind -/
def Ent (kk : KK P w κ) (e : Entry) : Prop := ∃ k, kk.knd.is k e.2 = true ∧ e.1 = kk.knd.hash k ∧ e.2.scannable = true
def ks (kk : KK P w κ) (es : Array Entry) : List κ := es.toList.map fun e => kk.key e.2
/-- at a stands a set: S its members, n their number -/
def SetG (kk : KK P w κ) (h : Heap) (a : Addr) (S : κ → Bool) (n : Nat) : Prop :=
  ∃ o es ep t, h.get? a = some o ∧ (o.ExactSet ∧ o.data = .set es ep t) ∧ ((∀ e ∈ es.toList, Ent kk e) ∧ (ks kk es).Nodup ∧ ∀ k, S k = true ↔ k ∈ ks kk es) ∧
    (es.size < scanBound ∧ es.size = n) ∧ (t.fits es.size = true ∧ Ris t.place.toList ∧ (w.params.followText "set-order" = true ∨ t.led = true))
theorem SetG.at (R : SetG kk h a S n) (k : ∀ o, h.get? a = some o → h'.get? a = some o) : SetG kk h' a S n := by
  obtain ⟨o, es, ep, t, ho, r⟩ := R
  exact ⟨o, es, ep, t, k o ho, r⟩
theorem SetG.ob (R : SetG kk h a S n) : ∃ o, h.get? a = some o := by
  obtain ⟨o, es, ep, t, ho, r⟩ := R
  exact ⟨o, ho⟩
theorem ent_elems {l : List Entry} (g : ∀ e ∈ l, Ent kk e) : ElemsOf kk.knd l := fun e he => by
  obtain ⟨k, h1, h2, h3⟩ := g e he
  exact ⟨⟨k, h1, h2⟩, h3⟩
theorem ent_mem {es : Array Entry} (g : ∀ e ∈ es.toList, Ent kk e) (k : κ) : k ∈ ks kk es ↔ ∃ e ∈ es.toList, kk.knd.is k e.2 = true := by
  unfold ks
  rw [List.mem_map]
  refine ⟨fun ⟨e, he, q⟩ => ⟨e, he, ?_⟩, fun ⟨e, he, q⟩ => ⟨e, he, kk.is_key q⟩⟩
  obtain ⟨j, h1, _⟩ := g e he
  rw [← q, kk.is_key h1]
  exact h1
theorem SetG.setOf (R : SetG kk h a S n) : h.SetOf kk.knd a S n := by
  obtain ⟨o, es, ep, t, ho, ⟨hex, hd⟩, ⟨g, nd, hm⟩, ⟨hb, hn⟩, hf, hr, hl⟩ := R
  exact ⟨o, es, ep, t, ho, hex, hd, ent_elems g, fun k => (hm k).trans (ent_mem g k), hb, hf, hn⟩
theorem perm_ks {es es' : Array Entry} (p : es'.toList.Perm es.toList) : (ks kk es').Perm (ks kk es) := p.map _
theorem setG_new : SetG kk (h.push { cls := .type "set", dict := none, data := .set #[] 0 (.fresh 0 0 (!w.params.followText "set-order")) }) h.objs.size (fun _ => false) 0 := by
  refine ⟨_, #[], 0, _, Heap.get?_push_size _ rfl, ⟨⟨rfl, rfl, rfl⟩, rfl⟩, ⟨fun e he => by simp at he, by simp [ks], fun k => by simp [ks]⟩, ⟨by decide, rfl⟩, by rfl, List.Pairwise.nil, ?_⟩
  show _ ∨ (!w.params.followText "set-order") = true
  cases w.params.followText "set-order"
  · exact .inr rfl
  · exact .inl rfl

variable {A : Around} {E : Value → Shared → Prop} {s : Shared}
/-- the end of an add: the table stored, perhaps laid anew -/
theorem lay_tail {gv : Bool → Sem Unit} (hg : ∀ (b : Bool) (s₁ : Shared) (Q' : Unit → Shared → Prop), Q' () s₁ → wpAny (model P w) A (gv b) Q' E s₁)
    {o : Obj} {es0 es : Array Entry} {ep : Nat} {t0 t : SetTable} (ho : s.heap.get? a = some o) (hex : o.ExactSet) (hd : o.data = .set es0 ep t0)
    (g : (∀ e ∈ es.toList, Ent kk e) ∧ (ks kk es).Nodup ∧ ∀ k, S k = true ↔ k ∈ ks kk es) (hb : es.size < scanBound) (hf : t.fits es.size = true ∧ Ris t.place.toList ∧ (w.params.followText "set-order" = true ∨ t.led = true))
    {wasDummy : Bool} {R : Option Bool → Shared → Prop} (hR : ∀ h', Heap.SameBut a s.heap h' → SetG kk h' a S es.size → R (some true) { s with heap := h' }) :
    wpAny (model P w) A (do
        storeSet a es t
        if (!wasDummy && t.tooFull) = true then do
            gv (relayAll t es (SetTable.grown es.size)).2.2
            storeSet a (relayAll t es (SetTable.grown es.size)).1 (relayAll t es (SetTable.grown es.size)).2.1
            pure (some true)
          else pure (some true)) R E s := by
  obtain ⟨f1, f2, f3⟩ := hf
  refine wpAny_bind (wpAny_storeSet_of ho hd ?_ (fits_of_scanBound hb))
  have o1 := store_at (es' := es) (t' := t) ho hd
  have b1 := Heap.SameBut.update s.heap a (Obj.putSet es t)
  split
  · have p := relayAll_perm t es (SetTable.grown es.size)
    have q := And.intro (relayAll_fits t es (SetTable.grown es.size)) (And.intro (relayAll_ris t es (SetTable.grown es.size)) (relayAll_led t es (SetTable.grown es.size)))
    generalize relayAll t es (SetTable.grown es.size) = Z at p q ⊢
    obtain ⟨es2, t2, gave⟩ := Z
    dsimp only at p q ⊢
    have z : es2.size = es.size := by
      have := p.length_eq
      simpa using this
    refine wpAny_bind (hg _ _ _ (wpAny_bind (wpAny_storeSet_of o1 rfl ?_ (fits_of_scanBound (by rw [z]; exact hb)))))
    have o2 := store_at (es' := es2) (t' := t2) o1 rfl
    have pk := perm_ks (kk := kk) p
    refine wpAny_pure (hR _ (b1.trans (Heap.SameBut.update _ a _)) ⟨_, es2, _, t2, o2, ⟨hex, rfl⟩, ⟨fun e he => g.1 e (p.mem_iff.mp he), pk.nodup_iff.mpr g.2.1, fun k => (g.2.2 k).trans pk.mem_iff.symm⟩, ⟨by rw [z]; exact hb, z⟩, q.1, q.2.1, ?_⟩)
    rcases f3 with f3 | f3
    · exact .inl f3
    · exact .inr (q.2.2.trans f3)
  · exact wpAny_pure (hR _ b1 ⟨_, es, _, t, o1, ⟨hex, rfl⟩, g, ⟨hb, rfl⟩, f1, f2, f3⟩)
theorem add_hashed {k : κ} {v : Value} {Q : Bool → Shared → Prop} (hv : kk.knd.is k v = true ∧ v.scannable = true) (R : SetG kk s.heap a S n) (room : n + 1 < scanBound)
    (hQ : ∀ h', Heap.SameBut a s.heap h' → SetG kk h' a (fun j => S j || decide (j = k)) (if S k = true then n else n + 1) → Q (!S k) { s with heap := h' }) :
    wpAny (model P w) A (setAddHashed a v (kk.knd.hash k)) Q E s := by
  obtain ⟨o, es, ep, t, ho, ⟨hex, hd⟩, ⟨g, nd, hm⟩, ⟨hb, hn⟩, hf, hr, hl⟩ := R
  have hel := ent_elems g
  unfold setAddHashed setAddHashedIn
  refine wpAny_holding (wpAny_bind (wpAny_setState_of ho hd hf ?_))
  dsimp only
  rw [byScan_of hv.2 hb hel]
  simp only [↓reduceIte]
  unfold setAddByScan
  refine wpAny_bind (wpAny_bind (wpAny_rule (wpAny_bind (wpAny_setScan_of hv.1 ho hd hf hel ?_))))
  cases hfi : List.findIdx? (fun e => kk.knd.is k e.2) es.toList with
  | some j =>
    dsimp only
    obtain ⟨hj, pj, _⟩ := List.findIdx?_eq_some_iff_getElem.mp hfi
    have hk : k ∈ ks kk es := (ent_mem g k).2 ⟨es.toList[j], List.getElem_mem hj, pj⟩
    have hSk : S k = true := (hm k).2 hk
    refine wpAny_pure (wpAny_pure ?_)
    have q := hQ s.heap (Heap.SameBut.refl a s.heap) ⟨o, es, ep, t, ho, ⟨hex, hd⟩, ⟨g, nd, fun i => by
      rw [Bool.or_eq_true, decide_eq_true_eq]
      refine ⟨fun z => ?_, fun z => .inl ((hm i).2 z)⟩
      rcases z with z | z
      · exact (hm i).1 z
      · rw [z]; exact hk⟩, ⟨hb, by rw [if_pos hSk]; exact hn⟩, hf, hr, hl⟩
    rw [hSk] at q
    exact q
  | none =>
    dsimp only
    have hnk : k ∉ ks kk es := fun z => by
      obtain ⟨e, he, q⟩ := (ent_mem g k).1 z
      have c := List.findIdx?_eq_none_iff.mp hfi e he
      rw [q] at c
      cases c
    have hSk : S k = false := Bool.eq_false_iff.mpr fun q => hnk ((hm k).1 q)
    have way : ∀ (b : Bool) {s₁ : Shared} {Q' : Unit → Shared → Prop}, Q' () s₁ → wpAny (model P w) A (match b with | true => rule "set.scan.the-table-gave-way" | false => pure ()) Q' E s₁ := fun b s₁ Q' q => by
      cases b
      · exact wpAny_pure q
      · exact wpAny_rule q
    have p := layNew_perm t es (kk.knd.hash k) v
    have pf := And.intro (layNew_fits t es (kk.knd.hash k) v) (And.intro (layNew_ris t es (kk.knd.hash k) v hr) (layNew_led t es (kk.knd.hash k) v))
    generalize layNew t es (kk.knd.hash k) v = Z at p pf ⊢
    obtain ⟨es1, t1, wasDummy, gave⟩ := Z
    dsimp only at p pf ⊢
    rw [Array.toList_push] at p
    have pc : es1.toList.Perm ((kk.knd.hash k, v) :: es.toList) := p.trans (List.perm_append_singleton _ _)
    have pk : (ks kk es1).Perm (k :: ks kk es) := by
      have := pc.map fun e : Entry => kk.key e.2
      rw [List.map_cons, kk.is_key hv.1] at this
      exact this
    have g1 : (∀ e ∈ es1.toList, Ent kk e) ∧ (ks kk es1).Nodup ∧ ∀ i, (S i || decide (i = k)) = true ↔ i ∈ ks kk es1 := by
      refine ⟨fun e he => ?_, pk.nodup_iff.mpr (List.nodup_cons.mpr ⟨hnk, nd⟩), fun i => ?_⟩
      · rcases List.mem_cons.mp (pc.mem_iff.mp he) with z | z
        · rw [z]; exact ⟨k, hv.1, rfl, hv.2⟩
        · exact g e z
      · rw [Bool.or_eq_true, decide_eq_true_eq, pk.mem_iff, List.mem_cons, hm i]
        exact Or.comm
    have hsz : es1.size = n + 1 := by
      have := pc.length_eq
      simp only [List.length_cons, Array.length_toList] at this
      omega
    have hb1 : es1.size < scanBound := by rw [hsz]; exact room
    have fin : ∀ h', Heap.SameBut a s.heap h' → SetG kk h' a (fun j => S j || decide (j = k)) es1.size → Q true { s with heap := h' } := fun h' sb r => by
      have q := hQ h' sb
      rw [hSk] at q
      rw [hsz] at r
      exact q r
    have led : w.params.followText "set-order" = true ∨ t1.led = true := by
      rcases hl with z | z
      · exact .inl z
      · exact .inr (pf.2.2.trans z)
    refine wpAny_bind (way _ ?_)
    split
    · refine wpAny_bind ?_
      rw [hashByValue_scannable 8 hv.2]
      refine wpAny_pure ?_
      refine lay_tail (fun b s₁ Q' q => by cases b <;> first | exact wpAny_pure q | exact wpAny_rule q) ho hex hd g1 hb1 ?_ (fun h' sb r => wpAny_pure (fin h' sb r))
      split
      · exact ⟨pf.1, pf.2.1, led⟩
      · exact ⟨SetTable.fits_plain_off pf.1, pf.2.1, led⟩
    · refine wpAny_bind (wpAny_pure ?_)
      simp only [↓reduceIte]
      exact lay_tail (fun b s₁ Q' q => by cases b <;> first | exact wpAny_pure q | exact wpAny_rule q) ho hex hd g1 hb1 ⟨pf.1, pf.2.1, led⟩ (fun h' sb r => wpAny_pure (fin h' sb r))
/-- s.add(v) -/
theorem call_add {k : κ} {v : Value} {Q : Value → Shared → Prop} (hv : kk.knd.is k v = true ∧ v.scannable = true) (R : SetG kk s.heap a S n) (room : n + 1 < scanBound)
    (hQ : ∀ h', Heap.SameBut a s.heap h' → SetG kk h' a (fun j => S j || decide (j = k)) (if S k = true then n else n + 1) → Q .none { s with heap := h', toks := s.toks + 1 }) :
    wpAny (model P w) A (call (.builtin "set.add") [.ref a, v]) Q E s := by
  refine wpAny_call_entry F.slot_set_add R.setOf.typeIs F.entry_set_add ?_ (F.args_set_add_2 _ _)
  unfold Builtin.«set.add» Builtin.Frozenset.oneOther
  simp only [List.isEmpty_nil, bind_assoc]
  unfold Builtin.Frozenset.addrOf setAdd
  refine wpAny_bind (wpAny_pure ?_)
  try dsimp only
  refine wpAny_bind (wpAny_pure ?_)
  try dsimp only
  refine wpAny_bind (wpAny_holding (wpAny_bind (kk.knd.pyHash hv.1 ?_)))
  refine add_hashed (s := { s with toks := s.toks + 1 }) hv R room fun h' sb r => ?_
  show wpAny _ _ (ret Value.none) _ _ _
  exact wpAny_pure ⟨_, rfl, hQ h' sb r⟩
/-- the values of a set, in some order -/
theorem collect_G {Q : List Value → Shared → Prop} (hh : A.handled = none) (R : SetG kk s.heap a S n)
    (hQ : ∀ s' (vs : List Value) (l : List κ), (∀ b o, s.heap.get? b = some o → s'.heap.get? b = some o) → s.heap.objs.size ≤ s'.heap.objs.size → s'.gens = s.gens → s'.os = s.os → Vals (l.map kk.emb) vs → l.Nodup → (∀ k, k ∈ l ↔ S k = true) → l.length = n → Q vs s') :
    wpAny (model P w) A (collect (.ref a)) Q E s := by
  obtain ⟨o, es, ep, t, ho, ⟨hex, hd⟩, ⟨g, nd, hm⟩, ⟨hb, hn⟩, hf, hr, hl⟩ := R
  refine collect_set hh ⟨o, ho, hex.1, hd⟩ hf hb hr hl fun s1 vs k1 z g1 o1 pm => ?_
  have pk : (vs.map kk.key).Perm (ks kk es) := by
    have := pm.map kk.key
    rw [List.map_map] at this
    exact this
  have hv : ∀ (vs : List Value), (∀ v ∈ vs, kk.knd.is (kk.key v) v = true) → Vals ((vs.map kk.key).map kk.emb) vs := fun vs => by
    induction vs with
    | nil => exact fun _ => .nil
    | cons v r ih => exact fun hv => .cons (kk.to_rel (hv v List.mem_cons_self)) (ih fun u hu => hv u (List.mem_cons_of_mem _ hu))
  refine hQ s1 vs (vs.map kk.key) k1 z g1 o1 (hv vs fun v hv => ?_) (pk.nodup_iff.mpr nd) (fun k => by rw [pk.mem_iff, ← hm k]) ?_
  · obtain ⟨e, he, q⟩ := List.mem_map.mp (pm.mem_iff.mp hv)
    obtain ⟨k, h1, _⟩ := g e he
    rw [← q, kk.is_key h1]
    exact h1
  · rw [pk.length_eq]
    unfold ks
    rw [List.length_map, Array.length_toList]
    exact hn
end
end SG

set_option Elab.async false
set_option linter.all false
set_option maxRecDepth 100000
set_option maxHeartbeats 4000000
/-! Set comprehensions with one and two clauses, over a kind of keys. -/
namespace SG
open PySem PySem.Spec PyProof.Rows L2 PpSet

def SGO {P : Program} {w : World} {κ : Type} [DecidableEq κ] (kk : KK P w κ) (a : Addr) (S : κ → Bool) (n : Nat) : HO := .ext fun h => SetG kk h a S n
section
variable {P : Program} {w : World} {κ : Type} [DecidableEq κ] {kk : KK P w κ}
theorem sgo_new {H : Hp} {h : Heap} {a : Addr} {S : κ → Bool} {n : Nat} (R : SetG kk h a S n) : ObjOk P w H h a (SGO kk a S n) := ⟨R, R.ob, fun _ _ p k => SetG.at p k⟩
end
section
variable {X : Cx} {κ : Type} [DecidableEq κ] {kk : KK X.prog X.w κ}
theorem sgo_get {pins : List (Addr × Obj)} {σ : L2.St} {H : Hp} {s : Shared} {a : Addr} {S : κ → Bool} {n : Nat} (I : Inv X pins σ H s) (ha : H a = some (SGO kk a S n)) : SetG kk s.heap a S n := (I.hok a _ ha).1
theorem sgo_add {pins : List (Addr × Obj)} {σ : L2.St} {H : Hp} {s : Shared} {E : Value → Shared → Prop} {D : Addr} {S : κ → Bool} {n : Nat} {k : κ} {v : Value} {Q : Value → Shared → Prop} (I : Inv X pins σ H s) (hD : H D = some (SGO kk D S n)) (room : n + 1 < scanBound) (r : RelV (kk.emb k) v)
    (h : ∀ s', Inv X pins σ (upd H D (SGO kk D (fun j => S j || decide (j = k)) (if S k = true then n else n + 1))) s' → Q .none s') : wpAny (model X.prog X.w) X.A (call (.builtin "set.add") [.ref D, v]) Q E s := by
  refine call_add (kk.of_rel r) (sgo_get I hD) room fun h' sb R => h _ ?_
  exact I.write (e := D) (t' := s.toks + 1) (by rw [hD]; trivial) (.inl rfl) (fun b u hb hu => (sb.2 b hb).trans hu) R.ob (sgo_new R)
end

section
variable {prog : Program} {w : World} {A : Around} {R : Result → Shared → Prop} {s : Shared} {elt t0 i0 t1 i1 : Expr} {ifs0 ifs1 : List Expr} {scope : Scope} {pos : Pos} {it acc : Value} {env : Env}
theorem turn_out (elt t0 i0 t1 i1 : Expr) (ifs0 ifs1 : List Expr) (scope : Scope) (pos : Pos) (it acc : Value) (env : Env) :
    compTurn (.SetComp elt [⟨t0, i0, ifs0, 0⟩, ⟨t1, i1, ifs1, 0⟩] scope pos) 0 it acc env = (do
      standAt i0.pos
      match ← pyNext it with
      | none => pure (.done .next)
      | some v =>
        letOwnedTupleGo t0 it v
        assign t0 env v
        let mut ok := true
        for c in ifs0 do
          if ok then ok ← isTrue c env (eval c env)
        if ok then
          let x ← eval i1 env
          standAt i1.pos
          let x ← foldedSetIterable i1 env x
          let _ ← runOwn (.compStart (.SetComp elt [⟨t0, i0, ifs0, 0⟩, ⟨t1, i1, ifs1, 0⟩] scope pos) 1 (← holding [x] (pyIter x)) acc env) env
        again (.compLoop (.SetComp elt [⟨t0, i0, ifs0, 0⟩, ⟨t1, i1, ifs1, 0⟩] scope pos) 0 it acc env)) := by rfl
theorem turn_in (elt t0 i0 t1 i1 : Expr) (ifs0 ifs1 : List Expr) (scope : Scope) (pos : Pos) (it acc : Value) (env : Env) :
    compTurn (.SetComp elt [⟨t0, i0, ifs0, 0⟩, ⟨t1, i1, ifs1, 0⟩] scope pos) 1 it acc env = (do
      standAt i1.pos
      match ← pyNext it with
      | none => pure (.done .next)
      | some v =>
        letOwnedTupleGo t1 it v
        assign t1 env v
        let mut ok := true
        for c in ifs1 do
          if ok then ok ← isTrue c env (eval c env)
        if ok then
          (do let v ← eval elt env; standAt elt.pos; let _ ← call (.builtin "set.add") [acc, v])
        again (.compLoop (.SetComp elt [⟨t0, i0, ifs0, 0⟩, ⟨t1, i1, ifs1, 0⟩] scope pos) 1 it acc env)) := by rfl
/-- what is wanted of an error within -/
abbrev Nb (prog : Program) (w : World) (A : Around) (env : Env) (R : Result → Shared → Prop) : Value → Shared → Prop := notedBy (model prog w) A env fun e s' => R (.error e) s'
/-- the tests of a clause, from the left -/
abbrev tests (ifs : List Expr) (env : Env) : Sem Bool := forIn ifs true fun c r => if r = true then do let ok ← isTrue c env (eval c env); pure (ForInStep.yield ok) else pure (ForInStep.yield r)
theorem loop_out (hs : ∀ x, foldedSetIterable i1 env x = pure x) (J : Nat → Shared → Prop)
    (turn : ∀ n s, J n s → wpAny (model prog w) A (pyNext it) (fun r s₁ => match r with
      | none => R (.ok .next) s₁
      | some v => wpAny (model prog w) A (letOwnedTupleGo t0 it v) (fun _ s₂ => wpAny (model prog w) A (assign t0 env v) (fun _ s₃ => wpAny (model prog w) A (tests ifs0 env) (fun ok s₄ =>
            if ok = true then wpAny (model prog w) A (eval i1 env) (fun x s₅ => wpAny (model prog w) A (pyIter x) (fun it1 s₆ =>
              codeAny (model prog w) A (.compStart (.SetComp elt [⟨t0, i0, ifs0, 0⟩, ⟨t1, i1, ifs1, 0⟩] scope pos) 1 it1 acc env) (fun r s' => match r with
                | .ok _ => ∃ m, m < n ∧ J m s'
                | .error _ => False) s₆) (Nb prog w A env R) s₅) (Nb prog w A env R) s₄
            else ∃ m, m < n ∧ J m s₄) (Nb prog w A env R) s₃) (Nb prog w A env R) s₂) (Nb prog w A env R) s₁) (Nb prog w A env R) s)
    (n : Nat) (h : J n s) : codeAny (model prog w) A (.compLoop (.SetComp elt [⟨t0, i0, ifs0, 0⟩, ⟨t1, i1, ifs1, 0⟩] scope pos) 0 it acc env) R s := by
  refine codeAny_loop rfl J (fun n s hJ => ?_) n h
  show wpAny _ A ((compTurn (.SetComp elt [⟨t0, i0, ifs0, 0⟩, ⟨t1, i1, ifs1, 0⟩] scope pos) 0 it acc env).onRaise (fun x => do noteFrame x env; theTreesLotGoes x)) _ _ s
  refine wpAny_noted ?_
  rw [turn_out]
  refine wpAny_bind (wpAny_standAt (wpAny_bind (wpAny_mono (turn n s hJ) (fun r s₁ q₁ => ?_) fun _ _ z => z)))
  cases r with
  | none => exact wpAny_pure q₁
  | some v =>
    refine wpAny_bind (wpAny_mono q₁ (fun _ s₂ q₂ => wpAny_bind (wpAny_mono q₂ (fun _ s₃ q₃ => wpAny_bind (wpAny_mono q₃ (fun ok s₄ q₄ => ?_) fun _ _ z => z)) fun _ _ z => z)) fun _ _ z => z)
    cases ok with
    | false => exact wpAny_pure ⟨rfl, q₄⟩
    | true =>
      refine wpAny_bind (wpAny_mono q₄ (fun x s₅ q₅ => wpAny_bind (wpAny_standAt (wpAny_bind (wpAny_of_eq (hs x) (wpAny_bind (wpAny_holding (wpAny_mono q₅ (fun it1 s₆ q₆ => ?_) fun _ _ z => z))))))) fun _ _ z => z)
      refine wpAny_bind (wpAny_runOwn ?_)
      rw [Around.mark_none]
      refine codeAny_mono q₆ fun r s' hr => ?_
      cases r with
      | ok f => first | exact wpAny_pure ⟨rfl, hr⟩ | exact wpAny_bind (wpAny_pure (wpAny_pure ⟨rfl, hr⟩))
      | error e => exact hr.elim
theorem loop_in (J : Nat → Shared → Prop)
    (turn : ∀ n s, J n s → wpAny (model prog w) A (pyNext it) (fun r s₁ => match r with
      | none => R (.ok .next) s₁
      | some v => wpAny (model prog w) A (letOwnedTupleGo t1 it v) (fun _ s₂ => wpAny (model prog w) A (assign t1 env v) (fun _ s₃ => wpAny (model prog w) A (tests ifs1 env) (fun ok s₄ =>
            if ok = true then wpAny (model prog w) A (eval elt env) (fun x s₅ =>
              wpAny (model prog w) A (call (.builtin "set.add") [acc, x]) (fun _ s₆ => ∃ m, m < n ∧ J m s₆) (Nb prog w A env R) s₅) (Nb prog w A env R) s₄
            else ∃ m, m < n ∧ J m s₄) (Nb prog w A env R) s₃) (Nb prog w A env R) s₂) (Nb prog w A env R) s₁) (Nb prog w A env R) s)
    (n : Nat) (h : J n s) : codeAny (model prog w) A (.compLoop (.SetComp elt [⟨t0, i0, ifs0, 0⟩, ⟨t1, i1, ifs1, 0⟩] scope pos) 1 it acc env) R s := by
  refine codeAny_loop rfl J (fun n s hJ => ?_) n h
  show wpAny _ A ((compTurn (.SetComp elt [⟨t0, i0, ifs0, 0⟩, ⟨t1, i1, ifs1, 0⟩] scope pos) 1 it acc env).onRaise (fun x => do noteFrame x env; theTreesLotGoes x)) _ _ s
  refine wpAny_noted ?_
  rw [turn_in]
  refine wpAny_bind (wpAny_standAt (wpAny_bind (wpAny_mono (turn n s hJ) (fun r s₁ q₁ => ?_) fun _ _ z => z)))
  cases r with
  | none => exact wpAny_pure q₁
  | some v =>
    refine wpAny_bind (wpAny_mono q₁ (fun _ s₂ q₂ => wpAny_bind (wpAny_mono q₂ (fun _ s₃ q₃ => wpAny_bind (wpAny_mono q₃ (fun ok s₄ q₄ => ?_) fun _ _ z => z)) fun _ _ z => z)) fun _ _ z => z)
    cases ok with
    | false => exact wpAny_pure ⟨rfl, q₄⟩
    | true => exact wpAny_bind (wpAny_bind (wpAny_mono q₄ (fun x s₅ q₅ => wpAny_bind (wpAny_standAt (wpAny_bind (wpAny_mono q₅ (fun _ s₆ q₆ => wpAny_pure (wpAny_pure ⟨rfl, q₆⟩)) fun _ _ z => z)))) fun _ _ z => z))
/-- the second clause begins -/
theorem start_in (h0 : codeAny (model prog w) A (.compLoop (.SetComp elt [⟨t0, i0, ifs0, 0⟩, ⟨t1, i1, ifs1, 0⟩] scope pos) 1 it acc env) R s)
    (h : wpAny (model prog w) A (pyIter it) (fun it' s' => codeAny (model prog w) A (.compLoop (.SetComp elt [⟨t0, i0, ifs0, 0⟩, ⟨t1, i1, ifs1, 0⟩] scope pos) 1 it' acc env) R s') (Nb prog w A env R) s) :
    codeAny (model prog w) A (.compStart (.SetComp elt [⟨t0, i0, ifs0, 0⟩, ⟨t1, i1, ifs1, 0⟩] scope pos) 1 it acc env) R s := by
  refine codeAny_of_tree ?_
  show wpAny _ _ ((compStart (.SetComp elt [⟨t0, i0, ifs0, 0⟩, ⟨t1, i1, ifs1, 0⟩] scope pos) 1 it acc env).onRaise (fun x => do noteFrame x env; standAt theWindowsPlace)) _ _ s
  refine wpAny_notedAt ?_
  unfold compStart
  show wpAny _ _ (ask >>= _) _ _ s
  refine wpAny_bind (wpAny_askSetting (wpAny_ite ?_))
  split
  · first | exact wpAny_bind (wpAny_pure (wpAny_pure ⟨rfl, h0⟩)) | exact wpAny_pure ⟨rfl, h0⟩
  · refine wpAny_bind (wpAny_rule ?_)
    show wpAny _ _ (standAt i1.pos >>= _) _ _ s
    exact wpAny_bind (wpAny_standAt (wpAny_bind (wpAny_mono h (fun it' s' q => wpAny_pure ⟨rfl, q⟩) fun _ _ z => z)))
end

section
variable {X : Cx} {κ : Type} [DecidableEq κ]
/-- what one item does: a key is added to the set at D -/
def tAdd (kk : KK X.prog X.w κ) (D : Addr) (te : TE) (σ : L2.St) (H : Hp) (Nx : Hp → Prop) : Prop := te σ H fun y H' => ∃ (k : κ) (S : κ → Bool) (n : Nat), y = kk.emb k ∧ H' D = some (SGO kk D S n) ∧ n + 1 < scanBound ∧ Nx (upd H' D (SGO kk D (fun j => S j || decide (j = k)) (if S k = true then n else n + 1)))
/-- {elt for tg in iter if .. for tg1 in iter1 if ..} -/
def tSet2 (kk : KK X.prog X.w κ) (wi : TI) (g : TG) (tt : TT) (wi1 : TI) (g1 : TG) (tt1 : TT) (te : TE) (vs vs1 : List Nat) : TE := fun σ H Q => wi σ H fun J H1 => ∀ D, H1 D = none → ∃ W : Nat → Nat → Hp → Prop, (∃ m, W 0 m (upd H1 D (SGO kk D (fun _ => false) 0))) ∧ ∀ i m H, W i m H →
  (J.stop i H ∧ Q (.ref D) H) ∨ (J.go i H ∧ ∃ Nx : Hp → Prop, (∀ H', Nx H' → ∃ m', m' < m ∧ W (i + 1) m' H') ∧ ∀ x H', J.yld i H x H' → g x (wipe σ vs) H' fun σ2 H2 => wipe σ2 vs = wipe σ vs ∧ tt σ2 H2 fun b H3 =>
    if b = true then wi1 σ2 H3 fun J1 H4 => ∃ W1 : Nat → Nat → Hp → Prop, (∃ m, W1 0 m H4) ∧ ∀ j k H, W1 j k H →
      (J1.stop j H ∧ Nx H) ∨ (J1.go j H ∧ ∃ Nx1 : Hp → Prop, (∀ H', Nx1 H' → ∃ k', k' < k ∧ W1 (j + 1) k' H') ∧ ∀ x H', J1.yld j H x H' → g1 x (wipe σ2 vs1) H' fun σ3 H5 => wipe σ3 vs1 = wipe σ2 vs1 ∧ tt1 σ3 H5 fun b H6 =>
        if b = true then tAdd kk D te σ3 H6 Nx1 else Nx1 H6)
    else Nx H3)
/-- what a block's part must be, wherever the block stands -/
abbrev Blk (X : Cx) (scope : Scope) (T : Cx → Prop) : Prop := ∀ (s : Shared) (H : Hp) (C : Addr) (cl : List (Str × Addr)) (fp : List Addr), T (X.blk s H scope (compEnvC scope cl C X.env) fp)
theorem pe_set2 {kk : KK X.prog X.w κ} {elt tg iter tg1 iter1 : Expr} {ifs ifs1 : List Expr} {scope : Scope} {own : List (Str × Nat)} {vs1 : List Nat} {pos : Pos} {wi wi1 : TI} {g g1 : TG} {tt tt1 : TT} {te : TE} (hc : X.calm = true) (hN : X.N.Nodup) (hi : PI X tg iter wi) (ok : BlkOk X.N X.env.scope scope own) (hv : ∀ i ∈ vs1, i ∈ own.map (·.2))
    (hg : Blk X scope fun Y => PG Y tg g) (ht : Blk X scope fun Y => PTs Y ifs tt) (hi1 : Blk X scope fun Y => PI Y tg1 iter1 wi1) (hg1 : Blk X scope fun Y => PG Y tg1 g1) (ht1 : Blk X scope fun Y => PTs Y ifs1 tt1) (he : Blk X scope fun Y => PE Y elt te)
    (hs : ∀ x, foldedSetIterable iter X.env x = pure x := by intro _; rfl) (hs1 : ∀ env x, foldedSetIterable iter1 env x = pure x := by intro _ _; rfl) :
    PE X (.SetComp elt [⟨tg, iter, ifs, 0⟩, ⟨tg1, iter1, ifs1, 0⟩] scope pos) (tSet2 kk wi g tt wi1 g1 tt1 te (own.map (·.2)) vs1) := by
  refine ⟨fun pins s σ H Q I h => ?_⟩
  rw [eval_SetComp]
  have hfree : ∀ y ∈ scope.names, y.2 = .free → ∃ c, X.env.cells.lookup y.1 = some c := fun y hy e => by
    rcases ok.free y hy e with k | k
    · exact I.ok.has _ (.inl k)
    · exact I.ok.has _ (.inr k)
  refine wpAny_comprehension_free (use := none) rfl hs (closure_ok hfree) ok.kind (fun y hy e => by rw [ok.uniq y hy, e])
    (thn (hi.run pins s σ H _ I h) fun xv s1 hx => thn hx fun itv s2 h2 => ?_)
  obtain ⟨it, fp, tn, J, H2, e, I2, T, st2, f2, q⟩ := h2
  subst e
  refine newSet_ok (newEnv_comp ?_)
  generalize hD : s2.heap.objs.size = D
  have hDn : H2 D = none := I2.hok.fresh (Nat.le_of_eq hD)
  obtain ⟨W, ⟨m0, w0⟩, turn⟩ := q D hDn
  generalize hs3 : ({ s2 with heap := s2.heap.push { cls := .type "set", dict := none, data := .set #[] 0 (.fresh 0 0 (!X.w.params.followText "set-order")) } } : Shared) = s3
  have h3 : s3.heap = s2.heap.push { cls := .type "set", dict := none, data := .set #[] 0 (.fresh 0 0 (!X.w.params.followText "set-order")) } := by rw [← hs3]
  have I3 : Inv X pins σ (upd H2 D (SGO kk D (fun _ => false) 0)) s3 := by
    rw [← hs3]
    refine I2.laid (t' := s2.toks) (fun b o e => Heap.get?_push_of_some _ e) (Nat.le_of_eq hD) ?_
    rw [← hD]
    exact sgo_new setG_new
  have hlt : ∀ b ∈ fp, b < s2.heap.objs.size := fun b hb => by
    obtain ⟨o, e, _⟩ := T.obj _ _ st2 b hb
    exact Heap.lt_size e
  have f3 : ∀ b ∈ fp, FpOk X pins (upd H2 D (SGO kk D (fun _ => false) 0)) b ∧ b < s3.heap.objs.size := fun b hb => by
    refine ⟨⟨?_, (f2 b hb).2⟩, by rw [h3, Heap.size_push]; exact Nat.lt_succ_of_lt (hlt b hb)⟩
    rw [upd_ne (by rw [← hD]; exact Nat.ne_of_lt (hlt b hb))]
    exact (f2 b hb).1
  have st3 : tn 0 s3.heap := T.keep _ _ _ st2 fun b _ o e => by rw [h3]; exact Heap.get?_push_of_some _ e
  have I4 := block_start I3 ok hN f3
  have all := fun {T : Cx → Prop} (z : Blk X scope T) => z s3 (upd H2 D (SGO kk D (fun _ => false) 0)) s3.heap.objs.size (cellsFrom (s3.heap.objs.size + 1) scope.names (cloFrom X.env.cells scope.names [])) fp
  have pg := all hg
  have pt := all ht
  have pe := all he
  have pi1 := all hi1
  have pg1 := all hg1
  have pt1 := all ht1
  clear all
  show codeAny _ _ (.compStart (.SetComp elt [⟨tg, iter, ifs, 0⟩, ⟨tg1, iter1, ifs1, 0⟩] scope pos) 0 (.ref it) (.ref D) (compEnvC scope (cellsFrom (s3.heap.objs.size + 1) scope.names (cloFrom X.env.cells scope.names [])) s3.heap.objs.size X.env)) (compPost (model X.prog X.w) X.A X.xe none _ (.ref D) s3.heap.objs.size) { s3 with heap := pushCells (s3.heap.push { cls := .type "dict", data := .dict #[] }) scope.names }
  have nfp : ∀ b ∈ fp, (upd H2 D (SGO kk D (fun _ => false) 0)) b = none := fun b hb => (f3 b hb).1.1
  generalize hce : compEnvC scope (cellsFrom (s3.heap.objs.size + 1) scope.names (cloFrom X.env.cells scope.names [])) s3.heap.objs.size X.env = ce at I4 pg pt pe pi1 pg1 pt1 ⊢
  have cL : ce.locals = s3.heap.objs.size := by subst hce; rfl
  generalize hH3 : upd H2 D (SGO kk D (fun _ => false) 0) = H3 at I3 I4 pg pt pe pi1 pg1 pt1 w0 nfp f3
  generalize hs4 : ({ s3 with heap := pushCells (s3.heap.push { cls := .type "dict", data := .dict #[] }) scope.names } : Shared) = s4 at I4 ⊢
  have st4 : tn 0 s4.heap := T.keep _ _ _ st3 fun b _ o e => by rw [← hs4]; exact pushCells_keeps _ _ _ _ (Heap.get?_push_of_some _ e)
  generalize hY : X.blk s3 H3 scope ce fp = Y at I4 pg pt pe pi1 pg1 pt1
  have yp : Y.prog = X.prog := by rw [← hY]
  have stat : ∀ {σ' : L2.St} {H' : Hp} {s' : Shared}, Inv (X.blk s3 H3 scope ce fp) [] σ' H' s' → (∀ b ∈ fp, H' b = none) → ∀ b ∈ fp, FpOk (X.blk s3 H3 scope ce fp) [] H' b := fun {σ' H' s'} I' hn b hb =>
    ⟨hn b hb, (I'.ok.exf b hb).1, I'.ok.exfs b hb, .inl hb, fun x c e => (I'.ok.exf b hb).2 x c e, fun p hp => absurd (show p ∈ ([] : List (Addr × Obj)) ++ [] from hp) (by simp)⟩
  subst hY
  have loop : codeAny (model X.prog X.w) X.A (.compLoop (.SetComp elt [⟨tg, iter, ifs, 0⟩, ⟨tg1, iter1, ifs1, 0⟩] scope pos) 0 (.ref it) (.ref D) ce) (compPost (model X.prog X.w) X.A X.xe none (EP X pins σ Q) (.ref D) s3.heap.objs.size) s4 := by
    refine loop_out (hs1 ce) (fun n s' => ∃ i H', Inv (X.blk s3 H3 scope ce fp) [] (wipe σ (own.map (·.2))) H' s' ∧ tn i s'.heap ∧ (∀ b ∈ fp, H' b = none) ∧ W i n H') ?_ m0 ⟨0, H3, I4, st4, nfp, w0⟩
    rintro n s5 ⟨i, H5, I5, st5, n5, w5⟩
    rcases turn i n H5 w5 with ⟨stop, qq⟩ | ⟨go, Nx, hNx, step⟩
    · refine thnF (T.done (X.blk s3 H3 scope ce fp) rfl rfl rfl hc i [] s5 _ H5 (fun _ _ => False) I5 (stat I5 n5) st5 stop) fun r s6 ⟨hr, I6⟩ => ?_
      subst hr
      have I7 : Inv X pins σ H5 s6 := I3.call' (ch := fp) I6.os I6.base I6.hok I6.bare fun b hb => ⟨(f3 b hb).1.2.2.2.1, (f3 b hb).1.2.1, (f3 b hb).1.2.2.2.2.1, (f3 b hb).1.2.2.2.2.2⟩
      have nC : H5 s3.heap.objs.size = none := cL ▸ (show H5 ce.locals = none from I6.free)
      obtain ⟨m, hn, _⟩ := I6.loc
      have hn' : s6.heap.Ns s3.heap.objs.size m := cL ▸ (show s6.heap.Ns ce.locals m from hn)
      refine ⟨m, hn', fun h'' sb => ?_⟩
      obtain ⟨z0, z1, z2, z3, z4, z5⟩ := I3.fpOk (Nat.le_refl _) nC
      exact ⟨.ref D, H5, I7.turned (t' := s6.toks) (fun b o hb e => (sb.2 b hb).trans e) z0 z1 z3 z4 z5, rfl, qq⟩
    · refine thnF (T.item (X.blk s3 H3 scope ce fp) rfl rfl rfl hc i [] s5 _ H5 (fun _ _ => False) I5 (stat I5 n5) st5 go) fun r s6 ⟨u, hr, h6⟩ => ?_
      subst hr
      refine thnF h6 fun _ s7 ⟨x, H7, I7, r7, y7, st7, n7⟩ => ?_
      have I7' := I7.pinned (stat I7 n7) (T.obj _ _ st7)
      refine thnF (pg.run _ s7 _ H7 x u _ I7' r7 (step x H7 y7)) fun _ s8 ⟨σ8, H8, I8, hw8, q8⟩ => ?_
      refine thnF (pt.run _ s8 σ8 H8 _ I8 q8) fun b s9 ⟨H9, I9, q9⟩ => ?_
      have fin : ∀ {σ9 : L2.St} {s' : Shared} {H' : Hp}, Inv (X.blk s3 H3 scope ce fp) ([] ++ pinsAt fp s7.heap) σ9 H' s' → (wipe σ (own.map (·.2))).length = σ9.length → (∀ (j : Nat) v, (wipe σ (own.map (·.2)))[j]? = some (some v) → σ9[j]? = some (some v)) → Nx H' →
          ∃ m, m < n ∧ ∃ i H', Inv (X.blk s3 H3 scope ce fp) [] (wipe σ (own.map (·.2))) H' s' ∧ tn i s'.heap ∧ (∀ b ∈ fp, H' b = none) ∧ W i m H' := fun {σ9 s' H'} I' hl hk nx => by
        obtain ⟨m', hm, w'⟩ := hNx H' nx
        have pin' : ∀ b ∈ fp, ∀ o, s7.heap.get? b = some o → s'.heap.get? b = some o ∧ H' b = none := fun b hb o e => by
          have z := I'.pin (b, o) (List.mem_append_right _ (List.mem_append_right _ (mem_pinsAt hb e)))
          exact ⟨z.1, z.2.1⟩
        refine ⟨m', hm, i + 1, H', (I'.unpinned (pins := [])).weak hl hk, T.keep _ _ _ st7 fun b hb o e => (pin' b hb o e).1, fun b hb => ?_, w'⟩
        obtain ⟨o, e, _⟩ := T.obj _ _ st7 b hb
        exact (pin' b hb o e).2
      have hl8 : (wipe σ (own.map (·.2))).length = σ8.length := by rw [← hw8, wipe_length]
      have hk8 : ∀ (j : Nat) v, (wipe σ (own.map (·.2)))[j]? = some (some v) → σ8[j]? = some (some v) := fun j v e => by
        rw [← hw8] at e
        exact (wipe_some e).1
      have hk9 : ∀ (j : Nat) v, (wipe σ (own.map (·.2)))[j]? = some (some v) → (wipe σ8 vs1)[j]? = some (some v) := fun j v e => by
        rw [← hw8] at e
        obtain ⟨e1, e2⟩ := wipe_some e
        rw [wipe_out fun z => e2 (hv j z)]
        exact e1
      cases b with
      | false => exact fin I9 hl8 hk8 q9
      | true =>
        simp only [if_true] at q9 ⊢
        refine thnF (pi1.run _ s9 σ8 H9 _ I9 q9) fun xv s10 hx => thnF hx fun itv s11 h11 => ?_
        obtain ⟨it1, fp1, tn1, J1, H11, e1, I11, T1, st11, f11, W1, ⟨m1, w1⟩, turn1⟩ := h11
        subst e1
        have stat1 : ∀ {H' : Hp}, (∀ b ∈ fp1, H' b = none) → ∀ b ∈ fp1, FpOk (X.blk s3 H3 scope ce fp) ([] ++ pinsAt fp s7.heap) H' b := fun hn b hb => ⟨hn b hb, (f11 b hb).2⟩
        have loop1 : codeAny (model X.prog X.w) X.A (.compLoop (.SetComp elt [⟨tg, iter, ifs, 0⟩, ⟨tg1, iter1, ifs1, 0⟩] scope pos) 1 (.ref it1) (.ref D) ce)
            (fun r s' => match r with
              | .ok _ => ∃ m, m < n ∧ ∃ i H', Inv (X.blk s3 H3 scope ce fp) [] (wipe σ (own.map (·.2))) H' s' ∧ tn i s'.heap ∧ (∀ b ∈ fp, H' b = none) ∧ W i m H'
              | .error _ => False) s11 := by
          refine loop_in (fun k s' => ∃ j H', Inv (X.blk s3 H3 scope ce fp) ([] ++ pinsAt fp s7.heap) (wipe σ8 vs1) H' s' ∧ tn1 j s'.heap ∧ (∀ b ∈ fp1, H' b = none) ∧ W1 j k H') ?_ m1 ⟨0, H11, I11.weak (wipe_length _ _) (fun j v e => (wipe_some e).1), st11, fun b hb => (f11 b hb).1, w1⟩
          rintro k s12 ⟨j, H12, I12, st12, n12, w12⟩
          rcases turn1 j k H12 w12 with ⟨stop1, nx1⟩ | ⟨go1, Nx1, hNx1, step1⟩
          · refine thnF (T1.done (X.blk s3 H3 scope ce fp) rfl rfl rfl hc j _ s12 (wipe σ8 vs1) H12 (fun _ _ => False) I12 (stat1 n12) st12 stop1) fun r s13 ⟨hr, I13⟩ => ?_
            subst hr
            exact fin I13 (hl8.trans (wipe_length σ8 vs1).symm) hk9 nx1
          · refine thnF (T1.item (X.blk s3 H3 scope ce fp) rfl rfl rfl hc j _ s12 (wipe σ8 vs1) H12 (fun _ _ => False) I12 (stat1 n12) st12 go1) fun r s13 ⟨u1, hr, h13⟩ => ?_
            subst hr
            refine thnF h13 fun _ s14 ⟨x1, H14, I14, r14, y14, st14, n14⟩ => ?_
            have I14' := I14.pinned (stat1 n14) (T1.obj _ _ st14)
            refine thnF (pg1.run _ s14 (wipe σ8 vs1) H14 x1 u1 _ I14' r14 (step1 x1 H14 y14)) fun _ s15 ⟨σ15, H15, I15, hw15, q15⟩ => ?_
            refine thnF (pt1.run _ s15 σ15 H15 _ I15 q15) fun b1 s16 ⟨H16, I16, q16⟩ => ?_
            have fin1 : ∀ {s' : Shared} {H' : Hp}, Inv (X.blk s3 H3 scope ce fp) (([] ++ pinsAt fp s7.heap) ++ pinsAt fp1 s14.heap) σ15 H' s' → Nx1 H' → ∃ m, m < k ∧ ∃ j H', Inv (X.blk s3 H3 scope ce fp) ([] ++ pinsAt fp s7.heap) (wipe σ8 vs1) H' s' ∧ tn1 j s'.heap ∧ (∀ b ∈ fp1, H' b = none) ∧ W1 j m H' := fun {s' H'} I' nx => by
              obtain ⟨m', hm, w'⟩ := hNx1 H' nx
              have pin' : ∀ b ∈ fp1, ∀ o, s14.heap.get? b = some o → s'.heap.get? b = some o ∧ H' b = none := fun b hb o e => by
                have z := I'.pin (b, o) (List.mem_append_right _ (List.mem_append_right _ (mem_pinsAt hb e)))
                exact ⟨z.1, z.2.1⟩
              refine ⟨m', hm, j + 1, H', I'.unpinned.weak (by rw [← hw15, wipe_length]) (fun j v e => by rw [← hw15] at e; exact (wipe_some e).1), T1.keep _ _ _ st14 fun b hb o e => (pin' b hb o e).1, fun b hb => ?_, w'⟩
              obtain ⟨o, e, _⟩ := T1.obj _ _ st14 b hb
              exact (pin' b hb o e).2
            cases b1 with
            | false => exact fin1 I16 q16
            | true =>
              simp only [if_true] at q16 ⊢
              refine thnF (pe.run _ s16 σ15 H16 _ I16 q16) fun z s17 ⟨yv, H17, I17, r17, kx, S0, n0, ey, hD17, hz17, nx⟩ => ?_
              subst ey
              exact sgo_add (X := X.blk s3 H3 scope ce fp) (kk := kk) I17 hD17 hz17 r17 fun s18 I18 => fin1 I18 nx
        exact start_in loop1 (T1.self X.A 0 _ _ _ st11 loop1)
  exact codeAny_compStart_set loop (T.self X.A 0 _ _ _ st4 loop)
end
end SG

set_option Elab.async false
set_option linter.all false
set_option maxRecDepth 100000
set_option maxHeartbeats 4000000
/-! sorted(a set of texts), sorted(a set of ints), any number of members. -/
namespace SG
open PySem PySem.Spec PyProof.Rows L2
section
variable {P : Program} {w : World} {A : Around} {E : Value → Shared → Prop} {s : Shared} {a : Addr} {n : Nat}
/-- the start of sorted(set): its members laid in a new list -/
theorem sorted_start {κ : Type} [DecidableEq κ] {kk : KK P w κ} {S : κ → Bool} {Q : Value → Shared → Prop} (hh : A.handled = none) (R : SetG kk s.heap a S n)
    (h : ∀ (s1 : Shared) (vs : List Value) (l : List κ), (∀ b o, s.heap.get? b = some o → s1.heap.get? b = some o) → s.heap.objs.size ≤ s1.heap.objs.size → s1.gens = s.gens → s1.os = s.os → Vals (l.map kk.emb) vs → l.Nodup → (∀ k, k ∈ l ↔ S k = true) → vs.length ≤ sizeLine →
      (s1.heap.push (seqObj "list" vs.toArray 0)).get? s1.heap.objs.size = some (seqObj "list" vs.toArray 0) →
      wpAny (model P w) A.in1.in1 (Builtin.«list.sort» ⟨[.ref s1.heap.objs.size], []⟩) (fun r s' => r = .done (.ret .none) ∧ Q (.ref s1.heap.objs.size) s') (fun e s' => E e s') { s1 with heap := s1.heap.push (seqObj "list" vs.toArray 0) }) :
    wpAny (model P w) A (call (.builtin "sorted") [.ref a]) Q E s := by
  have hb : n < scanBound := by
    obtain ⟨_, _, _, _, _, _, _, ⟨h1, h2⟩, _⟩ := R
    rw [← h2]; exact h1
  refine Calls.call_function_entry kind_sorted plain_sorted entry_sorted (args_sorted1 _) ?_
  unfold Builtin.«sorted»
  refine wpAny_bind (m := checkCount "sorted" 1 1 _) (wpAny_pure ?_)
  refine wpAny_bind (collect_G (A := A.in1) hh R fun s1 vs l k1 z g1 o1 rv nd hm hl => ?_)
  have hz : vs.length ≤ sizeLine := by
    have : scanBound = 4096 := rfl
    rw [← rv.length, List.length_map, hl, sizeLine_eq]
    omega
  refine wpAny_bind (wpAny_newList ?_ hz)
  have hoL : (s1.heap.push (seqObj "list" vs.toArray 0)).get? s1.heap.objs.size = some (seqObj "list" vs.toArray 0) := Heap.get?_push_size _ rfl
  refine wpAny_bind (wpAny_holding (wpAny_call_entry slot_list_sort ⟨_, hoL, rfl⟩ entry_list_sort ?_ (args_list_sort _)))
  refine wpAny_mono (h s1 vs l k1 z g1 o1 rv nd hm hz hoL) (fun r s' ⟨hr, q⟩ => ?_) fun _ _ q => q
  subst hr
  exact ⟨_, rfl, wpAny_pure ⟨_, rfl, q⟩⟩
end
section
variable {X : Cx}
/-- sorted(s), s a set of texts -/
def rSortG {κ : Type} [DecidableEq κ] (kk : KK X.prog X.w κ) (srt : List κ → Prop) : List V → Hp → VK → Prop := fun vs H Q => ∃ (a : Addr) (S : κ → Bool) (n : Nat), vs = [V.ref a] ∧ H a = some (SGO kk a S n) ∧
  ∀ (l : List κ) (p : Addr), l.Nodup → (∀ k, k ∈ l ↔ S k = true) → srt l → H p = none → Q (.ref p) (upd H p (.lst (l.map kk.emb)))
theorem old_of {s s1 : Shared} {vs : List Value} {out : Array Value} (k : ∀ b o, s.heap.get? b = some o → s1.heap.get? b = some o) (b : Addr) (o : Obj) (e : s.heap.get? b = some o) :
    (sortedHeap (s1.heap.push (seqObj "list" vs.toArray 0)) s1.heap.objs.size vs out).get? b = some o := by
  have q := k b o e
  have hlt := Heap.lt_size q
  rw [sortedHeap_old (Nat.ne_of_lt hlt) (by rw [size_push']; exact Nat.lt_succ_of_lt hlt)]
  exact Heap.get?_push_of_some _ q
theorem cr_sortSetS (hc : X.calm = true) : CallR X (.builtin "sorted") (rSortG (kkStr X.prog X.w) fun l => sortedS l = true) := by
  intro pins s σ H vs us Q I r h
  obtain ⟨a, S, n, rfl, ha, q⟩ := h
  rw [Vals.ref1 r]
  refine sorted_start (I.ok.hd hc) (sgo_get I ha) fun s1 ws l k1 z g1 o1 rv nd hm hz hoL => ?_
  have rv' : Vals (l.map V.str) ws := rv
  have hS := rv'.strs
  refine list_sort_treeKAny strKind_oneLt hoL hS.keysOf (fun v₁ v₂ rest e => keyKind_strs (by rw [← e]; exact hS)) hz fun st' hp hs => ⟨rfl, ?_⟩
  obtain ⟨ys, h1, h2, h3⟩ := sorted_out_str hS hp hs
  generalize (arrOf st').map (·.2) = out at h1 ⊢
  obtain ⟨c, hc'⟩ := sortedHeap_at (vs := ws) (out := out) hoL
  have hlen : (ys.map V.str).length ≤ sizeLine := by rw [List.length_map, h2.length_eq, ← List.length_map (f := V.str), rv'.length]; exact hz
  have hn : H s1.heap.objs.size = none := I.hok.fresh z
  have I2 := I.laid (t' := s1.toks) (o := .lst (ys.map V.str)) (a := s1.heap.objs.size) (h' := sortedHeap (s1.heap.push (seqObj "list" ws.toArray 0)) s1.heap.objs.size ws out) (old_of k1) z ⟨hlen, out.toList, c, vals_of_strs h1, by simpa using hc'⟩
  refine ⟨.ref _, _, ?_, rfl, q ys s1.heap.objs.size (h2.nodup_iff.mpr nd) (fun k => by rw [h2.mem_iff, hm k]) h3 hn⟩
  exact { I2 with os := o1.trans I2.os, bare := by have := I2.bare; rw [← g1] at this; exact this }
end
end SG

set_option Elab.async false
set_option linter.all false
set_option maxRecDepth 100000
set_option maxHeartbeats 4000000
/-! The data layer: comprehensions with two clauses, lists and sets. -/
namespace DL
open PySem PySem.Spec PyProof.Rows L2 SG

/-! ### what is walked, uniformly -/
def iStar (X : Cx) (fa : Option FA) (W : L2.St → XK) (f : Env' → M (List D)) : TI := fun σ H R => ∃ F ρ s, Same F H ∧ FeedOk X.K fa F H s ∧ EnvOk X.K fa F σ ρ ∧ GoodI X fa (W σ) F H (f ρ s) R
theorem IJ.star {X : Cx} {fa : Option FA} {W : L2.St → XK} {tg e : Expr} {f : Env' → M (List D)} (h : IJ X fa W tg e f) : PI X tg e (iStar X fa W f) := by
  obtain ⟨t, p, k⟩ := h
  exact ⟨fun pins s σ H R I ⟨F, ρ, s', h1, h2, h3, h4⟩ => p.run pins s σ H R I (k σ F H ρ s' R h1 h2 h3 h4)⟩

/-! ### what is computed -/
def lcE2 (b : D → Option Asg) (c : Env' → M Bool) (it1 : Env' → M (List D)) (b1 : D → Option Asg) (c1 : Env' → M Bool) (f : Env' → M D) : List D → Env' → M (List D)
  | [], _ => M.pure []
  | x :: xs, ρ => (M.lift (b x)).bind fun as => (c (setE as ρ)).bind fun k => if k = true then (it1 (setE as ρ)).bind fun ys => (lcE b1 c1 f ys (setE as ρ)).bind fun us => (lcE2 b c it1 b1 c1 f xs ρ).bind fun vs => M.pure (us ++ vs)
    else lcE2 b c it1 b1 c1 f xs ρ
/-- at most lim items, each as it may be -/
def fitsL (lim : Nat) (okI : D → Bool) (ys : List D) : Bool := decide (ys.length ≤ lim) && ys.all okI
def dLc2 (lim : Nat) (okI : D → Bool) (vs : List Nat) (it : Env' → M (List D)) (b : D → Option Asg) (c : Env' → M Bool) (it1 : Env' → M (List D)) (b1 : D → Option Asg) (c1 : Env' → M Bool) (f : Env' → M D) : Env' → M (List D) := fun ρ => (it ρ).bind fun xs => (M.quiet (lcE2 b c it1 b1 c1 f xs (wipeE ρ vs))).bind fun ys => if fitsL lim okI ys = true then M.pure ys else M.bad

/-! ### how the things gathered stand -/
structure AccK (X : Cx) (fa : Option FA) where
  u0 : Addr → HO
  item : Addr → TE → L2.St → Hp → (Hp → Prop) → Prop
  At : Hp → Addr → List D → HO → Prop
  lim : Nat
  okI : D → Bool
  start : ∀ F a, At F a [] (u0 a)
  mono : ∀ F F' a acc u, Same F F' → At F a acc u → At F' a acc u
  /-- one item more, the item's reading being that of data -/
  add : ∀ (a : Addr) (F H : Hp) (σ : L2.St) (ρ : Env') (s s' : FS) (f : Env' → M D) (y : D) (acc : List D) (Nx : Hp → Prop), Same F H → FeedOk X.K fa F H s → EnvOk X.K fa F σ ρ → f ρ s = .ok y s' → okI y = true → acc.length < lim →
    (∀ v F' H', Ext fa F H F' H' → FeedOk X.K fa F' H' s' → Rep X.K fa F' y v → ∃ u, H' a = some u ∧ At F' a acc u ∧ ∀ u', At F' a (acc ++ [y]) u' → Nx (upd H' a u')) → item a (tStar X fa Wno f) σ H Nx
structure GSt (X : Cx) (fa : Option FA) (C : AccK X fa) (F1 H1 : Hp) (D' : Addr) (F H : Hp) (acc : List D) (s : FS) : Prop where
  ext : Ext fa F1 H1 F H
  fd : FeedOk X.K fa F H s
  fD : F D' = none
  nD : H1 D' = none
  nf : Nfa fa D'
  at_ : ∃ u, H D' = some u ∧ C.At F D' acc u
section
variable {X : Cx} {fa : Option FA} {C : AccK X fa} {F1 H1 F H F' H' : Hp} {D' : Addr} {acc : List D} {s s' : FS}
theorem GSt.step (c : GSt X fa C F1 H1 D' F H acc s) (e : Ext fa F H F' H') (fo : FeedOk X.K fa F' H' s') : GSt X fa C F1 H1 D' F' H' acc s' := by
  obtain ⟨u, h, r⟩ := c.at_
  exact ⟨c.ext.trans e, fo, (e.fr D' (by rw [h]; simp)).trans c.fD, c.nD, c.nf, u, e.hh _ _ h c.nf, C.mono _ _ _ _ _ e.ff r⟩
theorem GSt.put (c : GSt X fa C F1 H1 D' F H acc s) {ys : List D} {u' : HO} (r : C.At F D' ys u') : GSt X fa C F1 H1 D' F (upd H D' u') ys s := by
  refine ⟨⟨c.ext.ff, fun b u z => ?_, fun b u z n => ?_, c.ext.fr, fun b z => ?_⟩, fun φ q => ?_, c.fD, c.nD, c.nf, _, upd_same, r⟩
  · rw [upd_ne (ne_of_none z c.fD)]; exact c.ext.fh b u z
  · rw [upd_ne (ne_of_none z c.nD)]; exact c.ext.hh b u z n
  · by_cases hb : b = D'
    · rw [hb, upd_same]; simp
    · rw [upd_ne hb]; exact c.ext.al b z
  · obtain ⟨g1, g2, g3, g4⟩ := c.fd φ q
    exact ⟨g1, g2, by rw [upd_ne (c.nf φ q)]; exact g3, g4⟩
/-- the first clause's store and tests, of item x -/
theorem gs_turn {σ : L2.St} {ρ : Env'} {x : D} {v : V} {as : Asg} {k : Bool} {b : D → Option Asg} {c : Env' → M Bool} {vs ns : List Nat} {R : L2.St → Bool → Hp → Prop} {s1 : FS} (G : GSt X fa C F1 H1 D' F H acc s) (en : EnvOk X.K fa F (L2.wipe σ vs) (wipeE ρ vs))
    (r : Rep X.K fa F x v) (hb : b x = some as) (hc : c (setE as ρ) s = .ok k s1) (hin : ∀ n ∈ ns, n ∈ vs) (hni : ∀ n ∈ vs, n ∈ ns)
    (q : ∀ σ2 F2 H2, GSt X fa C F1 H1 D' F2 H2 acc s1 → Same F F2 → EnvOk X.K fa F2 σ2 (setE as ρ) → L2.wipe σ2 vs = L2.wipe σ vs → R σ2 k H2) :
    gStar X ns b v (L2.wipe σ vs) H fun σ2 H2 => L2.wipe σ2 vs = L2.wipe σ vs ∧ tStarB X fa Wno c σ2 H2 (R σ2) := by
  refine ⟨fa, F, x, as, G.ext.fh, r, hb, fun ws hw hn => ?_⟩
  have hwv : L2.wipe (setV ws (L2.wipe σ vs)) vs = L2.wipe σ vs := by
    rw [wipe_setV vs ws _ fun p hp => hin _ (by rw [← hn, ← hw.ix]; exact List.mem_map_of_mem hp), wipe_wipe σ vs vs fun _ h => h]
  have en2 : EnvOk X.K fa F (setV ws (L2.wipe σ vs)) (setE as ρ) := by
    have z := en.setE hw
    rw [setE_wipe as ρ vs fun n h => by rw [hn]; exact hni n h] at z
    exact z
  refine ⟨hwv, F, setE as ρ, s, G.ext.fh, G.fd, en2, ?_⟩
  rw [hc]
  exact fun F' H' e fo => q _ F' H' (G.step e fo) e.ff (en2.mono e.ff) hwv
/-- .. with the block's names wiped -/
theorem gs_turnB {σ : L2.St} {ρw : Env'} {x : D} {v : V} {as : Asg} {k : Bool} {b : D → Option Asg} {c : Env' → M Bool} {vs ns : List Nat} {R : L2.St → Bool → Hp → Prop} {s1 : FS} (G : GSt X fa C F1 H1 D' F H acc s) (en : EnvOk X.K fa F (L2.wipe σ vs) ρw)
    (r : Rep X.K fa F x v) (hb : b x = some as) (hc : c (setE as ρw) s = .ok k s1) (hin : ∀ n ∈ ns, n ∈ vs)
    (q : ∀ σ2 F2 H2, GSt X fa C F1 H1 D' F2 H2 acc s1 → Same F F2 → EnvOk X.K fa F2 σ2 (setE as ρw) → L2.wipe σ2 vs = L2.wipe σ vs → R σ2 k H2) :
    gStar X ns b v (L2.wipe σ vs) H fun σ2 H2 => L2.wipe σ2 vs = L2.wipe σ vs ∧ tStarB X fa Wno c σ2 H2 (R σ2) := by
  refine ⟨fa, F, x, as, G.ext.fh, r, hb, fun ws hw hn => ?_⟩
  have hwv : L2.wipe (setV ws (L2.wipe σ vs)) vs = L2.wipe σ vs := by
    rw [wipe_setV vs ws _ fun p hp => hin _ (by rw [← hn, ← hw.ix]; exact List.mem_map_of_mem hp), wipe_wipe σ vs vs fun _ h => h]
  have en2 := en.setE hw
  refine ⟨hwv, F, setE as ρw, s, G.ext.fh, G.fd, en2, ?_⟩
  rw [hc]
  exact fun F' H' e fo => q _ F' H' (G.step e fo) e.ff (en2.mono e.ff) hwv
end

/-! ### two clauses -/
def tG2 (u0 : Addr → HO) (item : Addr → TE → L2.St → Hp → (Hp → Prop) → Prop) (wi : TI) (g : TG) (tt : TT) (wi1 : TI) (g1 : TG) (tt1 : TT) (te : TE) (vs vs1 : List Nat) : TE := fun σ H Q => wi σ H fun J H1 => ∀ D, H1 D = none → ∃ W : Nat → Nat → Hp → Prop, (∃ m, W 0 m (upd H1 D (u0 D))) ∧ ∀ i m H, W i m H →
  (J.stop i H ∧ Q (.ref D) H) ∨ (J.go i H ∧ ∃ Nx : Hp → Prop, (∀ H', Nx H' → ∃ m', m' < m ∧ W (i + 1) m' H') ∧ ∀ x H', J.yld i H x H' → g x (L2.wipe σ vs) H' fun σ2 H2 => L2.wipe σ2 vs = L2.wipe σ vs ∧ tt σ2 H2 fun b H3 =>
    if b = true then wi1 σ2 H3 fun J1 H4 => ∃ W1 : Nat → Nat → Hp → Prop, (∃ m, W1 0 m H4) ∧ ∀ j k H, W1 j k H →
      (J1.stop j H ∧ Nx H) ∨ (J1.go j H ∧ ∃ Nx1 : Hp → Prop, (∀ H', Nx1 H' → ∃ k', k' < k ∧ W1 (j + 1) k' H') ∧ ∀ x H', J1.yld j H x H' → g1 x (L2.wipe σ2 vs1) H' fun σ3 H5 => L2.wipe σ3 vs1 = L2.wipe σ2 vs1 ∧ tt1 σ3 H5 fun b H6 =>
        if b = true then item D te σ3 H6 Nx1 else Nx1 H6)
    else Nx H3)
section
variable {X : Cx} {fa : Option FA} {Wσ : L2.St → XK} {C : AccK X fa}
theorem len_pos {α : Type} {xs : List α} {i : Nat} {x : α} (h : xs[i]? = some x) : i < xs.length := (List.getElem?_eq_some_iff.mp h).1
/-- lists -/
def accL (X : Cx) (fa : Option FA) : AccK X fa where
  u0 := fun _ => .lst []
  item := fun a te σ H Nx => te σ H fun y H7 => ∃ acc, H7 a = some (.lst acc) ∧ acc.length < sizeLine ∧ Nx (upd H7 a (.lst (acc ++ [y])))
  At := fun F a acc u => ∃ av, u = .lst av ∧ RepL X.K fa F acc av
  lim := sizeLine
  okI := fun _ => true
  start := fun F a => ⟨[], rfl, .nil⟩
  mono := fun F F' a acc u e ⟨av, h, r⟩ => ⟨av, h, r.mono e⟩
  add := fun a F H σ ρ s s' f y acc Nx h1 h2 h3 hf ok hl k => by
    refine ⟨F, ρ, s, h1, h2, h3, ?_⟩
    rw [hf]
    intro v F' H' e o r
    obtain ⟨u, hu, ⟨av, rfl, rl⟩, q⟩ := k v F' H' e o r
    exact ⟨av, hu, by rw [← rl.length]; exact hl, q _ ⟨_, rfl, rl.append (.cons r .nil)⟩⟩
def isStrD : D → Bool
  | .str _ => true
  | _ => false
/-- sets of texts -/
def accS (X : Cx) (fa : Option FA) : AccK X fa where
  u0 := fun a => SGO (kkStr X.prog X.w) a (fun _ => false) 0
  item := fun a te σ H Nx => tAdd (kkStr X.prog X.w) a te σ H Nx
  At := fun F a acc u => ∃ (ks : List Str) (S : Str → Bool) (n : Nat), acc = ks.map D.str ∧ u = SGO (kkStr X.prog X.w) a S n ∧ n ≤ acc.length ∧ ∀ k, S k = true ↔ k ∈ ks
  lim := 4000
  okI := isStrD
  start := fun F a => ⟨[], _, 0, rfl, rfl, Nat.zero_le _, fun k => by simp⟩
  mono := fun F F' a acc u e h => h
  add := fun a F H σ ρ s s' f y acc Nx h1 h2 h3 hf ok hl k => by
    refine ⟨F, ρ, s, h1, h2, h3, ?_⟩
    rw [hf]
    intro v F' H' e o r
    obtain ⟨u, hu, ⟨ks, S, n, ea, rfl, hn, hm⟩, q⟩ := k v F' H' e o r
    cases y with
    | str x =>
      cases r
      have hb : scanBound = 4096 := rfl
      refine ⟨x, S, n, rfl, hu, by omega, q _ ⟨ks ++ [x], _, _, by rw [ea, List.map_append]; rfl, rfl, ?_, fun k => ?_⟩⟩
      · rw [List.length_append]
        show (if S x = true then n else n + 1) ≤ acc.length + 1
        split <;> omega
      · rw [Bool.or_eq_true, decide_eq_true_eq, List.mem_append, List.mem_singleton, hm k]
    | _ => cases ok
/-- a walk's loop, with its measure -/
theorem walk_loop {J : It} {n : Nat} {G : Hp → Prop} {Y : Nat → Hp → V → Hp → Prop} (w : Walk J n G Y) (Pv : Nat → Hp → Prop) (hG : ∀ i H, i ≤ n → Pv i H → G H) {H0 : Hp} (h0 : Pv 0 H0) {Stop : Hp → Prop} {Turn : Nat → Hp → V → Hp → (Hp → Prop) → Prop}
    (hs : ∀ i x H H', i < n → Pv i H → Y i H x H' → Turn i H x H' (Pv (i + 1))) (hd : ∀ H, Pv n H → Stop H) :
    ∃ W : Nat → Nat → Hp → Prop, (∃ m, W 0 m H0) ∧ ∀ i m H, W i m H → (J.stop i H ∧ Stop H) ∨ (J.go i H ∧ ∃ Nx : Hp → Prop, (∀ H', Nx H' → ∃ m', m' < m ∧ W (i + 1) m' H') ∧ ∀ x H', J.yld i H x H' → Turn i H x H' Nx) := by
  refine ⟨fun i m H => i ≤ n ∧ m = n - i ∧ Pv i H, ⟨n, Nat.zero_le _, rfl, h0⟩, ?_⟩
  rintro i m H ⟨hi, rfl, hp⟩
  by_cases h : i = n
  · subst h
    exact .inl ⟨w.stops _ (hG _ H hi hp), hd H hp⟩
  · have hlt : i < n := Nat.lt_of_le_of_ne hi h
    exact .inr ⟨w.goes i _ hlt (hG i H hi hp), Pv (i + 1), fun H' hp' => ⟨n - (i + 1), by omega, hlt, rfl, hp'⟩, fun x H' y => hs i x H H' hlt hp (w.yields i _ x H' hlt (hG i H hi hp) y)⟩
theorem fits_at {lim : Nat} {okI : D → Bool} {ys acc zs : List D} {y : D} (h : fitsL lim okI ys = true) (e : acc ++ y :: zs = ys) : okI y = true ∧ acc.length < lim := by
  unfold fitsL at h
  rw [Bool.and_eq_true, decide_eq_true_eq, List.all_eq_true] at h
  subst e
  refine ⟨h.2 y (by simp), ?_⟩
  have := h.1
  simp only [List.length_append, List.length_cons] at this
  omega
/-- the inner loop -/
theorem g2_in {F1 H1 : Hp} {D' : Addr} {b1 : D → Option Asg} {c1 : Env' → M Bool} {f : Env' → M D} {vs1 ns1 : List Nat} {σ2 : L2.St} {ρ2 : Env'} {J1 : It} {F0 H4 : Hp} {xs1 : List D} (wj : WJ X.K fa J1 F0 xs1) (hin : ∀ n ∈ ns1, n ∈ vs1) (hni : ∀ n ∈ vs1, n ∈ ns1)
    {ys zs us acc : List D} {s s2 : FS} (G : GSt X fa C F1 H1 D' F0 H4 acc s) (en : EnvOk X.K fa F0 σ2 ρ2) (hz : lcE b1 c1 f xs1 ρ2 s = .ok us s2) (hy : acc ++ us ++ zs = ys) (hf : fitsL C.lim C.okI ys = true) {Nx : Hp → Prop}
    (k : ∀ F H, GSt X fa C F1 H1 D' F H (acc ++ us) s2 → Same F0 F → Nx H) :
    ∃ W1 : Nat → Nat → Hp → Prop, (∃ m, W1 0 m H4) ∧ ∀ j k H, W1 j k H →
      (J1.stop j H ∧ Nx H) ∨ (J1.go j H ∧ ∃ Nx1 : Hp → Prop, (∀ H', Nx1 H' → ∃ k', k' < k ∧ W1 (j + 1) k' H') ∧ ∀ x H', J1.yld j H x H' → gStar X ns1 b1 x (L2.wipe σ2 vs1) H' fun σ3 H5 => L2.wipe σ3 vs1 = L2.wipe σ2 vs1 ∧ tStarB X fa Wno c1 σ3 H5 fun b H6 =>
        if b = true then C.item D' (tStar X fa Wno f) σ3 H6 Nx1 else Nx1 H6) := by
  obtain ⟨G0, Y, wk, hG, hY⟩ := wj.ex
  refine walk_loop wk (fun j H => ∃ F a s' ws, GSt X fa C F1 H1 D' F H a s' ∧ Same F0 F ∧ lcE b1 c1 f (xs1.drop j) ρ2 s' = .ok ws s2 ∧ a ++ ws = acc ++ us) ?_ ⟨F0, acc, s, us, G, Same.refl _, hz, rfl⟩
    (Turn := fun j H x H' Nx1 => gStar X ns1 b1 x (L2.wipe σ2 vs1) H' fun σ3 H5 => L2.wipe σ3 vs1 = L2.wipe σ2 vs1 ∧ tStarB X fa Wno c1 σ3 H5 fun b H6 => if b = true then C.item D' (tStar X fa Wno f) σ3 H6 Nx1 else Nx1 H6) ?_ ?_
  · rintro j H _ ⟨F, a, s', ws, G', e, _⟩
    exact hG F H e G'.ext.fh
  · rintro j x H H' hj ⟨F, a, s', ws, G', e0, hw, ha⟩ y
    have hx : xs1[j]? = some xs1[j] := List.getElem?_eq_getElem hj
    obtain ⟨F3, a1, a2, a3, a4, r⟩ := hY j _ F H x H' hx e0 G'.ext.fh y
    have G3 := G'.step (ext_same a1 a2 a3 a4) (G'.fd.ext_same a1 a3 a4)
    rw [List.drop_eq_getElem_cons hj] at hw
    change ((M.lift (b1 xs1[j]) s').bnd _) = _ at hw
    obtain ⟨as, s3, hb0, hw1⟩ := bnd_ok hw
    obtain ⟨hb, es1⟩ := lift_ok hb0
    rw [es1] at hw1
    change ((c1 (setE as ρ2) s').bnd _) = _ at hw1
    obtain ⟨kk, s4, hc, hw2⟩ := bnd_ok hw1
    refine gs_turn G3 ((en.mono (e0.trans a1)).wipe vs1) r hb hc hin hni fun σ3 F4 H5 G4 e34 en2 hwp => ?_
    cases kk with
    | false =>
      rw [if_neg Bool.false_ne_true] at hw2
      exact iteF ⟨F4, a, s4, ws, G4, e0.trans (a1.trans e34), hw2, ha⟩
    | true =>
      rw [if_pos rfl] at hw2
      change ((f (setE as ρ2) s4).bnd _) = _ at hw2
      obtain ⟨y', s5, hff, hw3⟩ := bnd_ok hw2
      change ((lcE b1 c1 f (xs1.drop (j + 1)) ρ2 s5).bnd _) = _ at hw3
      obtain ⟨ws', s6, hw4, hq⟩ := bnd_ok hw3
      cases hq
      have fa' := fits_at (acc := a) (y := y') (zs := ws' ++ zs) hf (by rw [← hy, ← ha]; simp)
      refine iteT (C.add D' F4 H5 σ3 (setE as ρ2) s4 s5 f y' a _ G4.ext.fh G4.fd en2 hff fa'.1 fa'.2 fun v F5 H6 e5 o5 r5 => ?_)
      have G5 := G4.step e5 o5
      obtain ⟨u, hu, hA⟩ := id G5.at_
      exact ⟨u, hu, hA, fun u' hA' => ⟨F5, a ++ [y'], s5, ws', G5.put hA', e0.trans (a1.trans (e34.trans e5.ff)), hw4, by rw [← ha]; simp⟩⟩
  · rintro H ⟨F, a, s', ws, G', e0, hw, ha⟩
    rw [List.drop_length] at hw
    cases hw
    rw [List.append_nil] at ha
    subst ha
    exact k F H G' e0
/-- two clauses: what is gathered at the end -/
theorem g2_run {wi : TI} {it it1 : Env' → M (List D)} {b b1 : D → Option Asg} {c c1 : Env' → M Bool} {f : Env' → M D} {vs ns vs1 ns1 : List Nat} (ki : IOk X fa Wσ wi it) (hin : ∀ n ∈ ns, n ∈ vs) (hin1 : ∀ n ∈ ns1, n ∈ vs1) (hni1 : ∀ n ∈ vs1, n ∈ ns1)
    {σ : L2.St} {F H : Hp} {ρ : Env'} {s : FS} {Q : VK} {β : Type} {Gd : Hp → Hp → Res β → Prop} {rest : List D → M β} (T : Tgt X fa (Wσ σ) Gd) (h1 : Same F H) (h2 : FeedOk X.K fa F H s) (h3 : EnvOk X.K fa F σ ρ)
    (hg : Gd F H ((dLc2 C.lim C.okI vs it b c it1 b1 c1 f ρ s).bnd rest))
    (k : ∀ ys s' F1 H1 D' F' H', Ext fa F H F1 H1 → H1 D' = none → GSt X fa C F1 H1 D' F' H' ys s' → Gd F H (rest ys s') → Q (.ref D') H') :
    tG2 C.u0 C.item wi (gStar X ns b) (tStarB X fa Wno c) (iStar X fa Wno it1) (gStar X ns1 b1) (tStarB X fa Wno c1) (tStar X fa Wno f) vs vs1 σ H Q := by
  refine ki σ F H ρ s _ h1 h2 h3 ?_
  change Gd F H (((it ρ s).bnd _).bnd _) at hg
  generalize it ρ s = r at hg
  cases r with
  | bad => exact absurd hg (T.bad F H)
  | err e s' => exact T.err F H e s' hg
  | ok xs s0 =>
    intro J F1 H1 e1 o1 wj D' hD
    change Gd F H (((M.quiet (lcE2 b c it1 b1 c1 f xs (wipeE ρ vs)) s0).bnd fun ys => if fitsL C.lim C.okI ys = true then M.pure ys else M.bad).bnd rest) at hg
    unfold M.quiet at hg
    cases hq : lcE2 b c it1 b1 c1 f xs (wipeE ρ vs) s0 with
    | bad => rw [hq] at hg; exact absurd hg (T.bad F H)
    | err e s' => rw [hq] at hg; exact absurd hg (T.bad F H)
    | ok ys s9 =>
      rw [hq] at hg
      change Gd F H (((if fitsL C.lim C.okI ys = true then M.pure ys else M.bad) s9).bnd rest) at hg
      by_cases hf : fitsL C.lim C.okI ys = true
      · rw [if_pos hf] at hg
        obtain ⟨G0, Y, wk, hG, hY⟩ := wj.ex
        have nf : Nfa fa D' := fun φ q z => by
          obtain ⟨g1, g2, g3, g4⟩ := o1 φ q
          rw [z, hD] at g3
          cases g3
        have fD : F1 D' = none := Same.free e1.fh hD
        have G00 : GSt X fa C F1 H1 D' F1 (upd H1 D' (C.u0 D')) [] s0 := ⟨(Ext.refl e1.fh).newH hD, o1.newH hD, fD, hD, nf, _, upd_same, C.start F1 D'⟩
        refine walk_loop wk (fun i H' => ∃ F' acc s' zs, GSt X fa C F1 H1 D' F' H' acc s' ∧ lcE2 b c it1 b1 c1 f (xs.drop i) (wipeE ρ vs) s' = .ok zs s9 ∧ acc ++ zs = ys) ?_ ⟨F1, [], s0, ys, G00, hq, rfl⟩
          (Turn := fun i H x H' Nx => gStar X ns b x (L2.wipe σ vs) H' fun σ2 H2 => L2.wipe σ2 vs = L2.wipe σ vs ∧ tStarB X fa Wno c σ2 H2 fun b H3 => if b = true then iStar X fa Wno it1 σ2 H3 fun J1 H4 => ∃ W1 : Nat → Nat → Hp → Prop, (∃ m, W1 0 m H4) ∧ ∀ j k H, W1 j k H →
            (J1.stop j H ∧ Nx H) ∨ (J1.go j H ∧ ∃ Nx1 : Hp → Prop, (∀ H', Nx1 H' → ∃ k', k' < k ∧ W1 (j + 1) k' H') ∧ ∀ x H', J1.yld j H x H' → gStar X ns1 b1 x (L2.wipe σ2 vs1) H' fun σ3 H5 => L2.wipe σ3 vs1 = L2.wipe σ2 vs1 ∧ tStarB X fa Wno c1 σ3 H5 fun b H6 =>
              if b = true then C.item D' (tStar X fa Wno f) σ3 H6 Nx1 else Nx1 H6) else Nx H3) ?_ ?_
        · rintro i H' _ ⟨F', acc, s', zs, G', _⟩
          exact hG F' H' G'.ext.ff G'.ext.fh
        · rintro i x H' H3 hi ⟨F', acc, s', zs, G', hz, ha⟩ y
          have hx : xs[i]? = some xs[i] := List.getElem?_eq_getElem hi
          obtain ⟨F3, a1, a2, a3, a4, r⟩ := hY i _ F' H' x H3 hx G'.ext.ff G'.ext.fh y
          have G3 := G'.step (ext_same a1 a2 a3 a4) (G'.fd.ext_same a1 a3 a4)
          rw [List.drop_eq_getElem_cons hi] at hz
          change ((M.lift (b xs[i]) s').bnd _) = _ at hz
          obtain ⟨as, s1, hb0, hz1⟩ := bnd_ok hz
          obtain ⟨hb, es1⟩ := lift_ok hb0
          rw [es1] at hz1
          change ((c (setE as (wipeE ρ vs)) s').bnd _) = _ at hz1
          obtain ⟨kk, s2, hc, hz2⟩ := bnd_ok hz1
          refine gs_turnB G3 ((h3.mono (e1.ff.trans (G'.ext.ff.trans a1))).wipe vs) r hb hc hin fun σ2 F4 H4 G4 e34 en2 hw => ?_
          cases kk with
          | false =>
            rw [if_neg Bool.false_ne_true] at hz2
            exact iteF ⟨F4, acc, s2, zs, G4, hz2, ha⟩
          | true =>
            rw [if_pos rfl] at hz2
            change ((it1 (setE as (wipeE ρ vs)) s2).bnd _) = _ at hz2
            obtain ⟨xs1, s3, hi1, hz3⟩ := bnd_ok hz2
            change ((lcE b1 c1 f xs1 (setE as (wipeE ρ vs)) s3).bnd _) = _ at hz3
            obtain ⟨us, s4, hl, hz4⟩ := bnd_ok hz3
            change ((lcE2 b c it1 b1 c1 f (xs.drop (i + 1)) (wipeE ρ vs) s4).bnd _) = _ at hz4
            obtain ⟨zs', s5, hz5, hqq⟩ := bnd_ok hz4
            cases hqq
            refine iteT ⟨F4, setE as (wipeE ρ vs), s2, G4.ext.fh, G4.fd, en2, ?_⟩
            rw [hi1]
            intro J1 F5 H5 e5 o5 wj1
            have G5 := G4.step e5 o5
            exact g2_in wj1 hin1 hni1 (zs := zs') G5 (en2.mono e5.ff) hl (by rw [← ha]; simp) hf fun F6 H6 G6 e6 => ⟨F6, acc ++ us, s4, zs', G6, hz5, by rw [← ha]; simp⟩
        · rintro H' ⟨F', acc, s', zs, G', hz, ha⟩
          rw [List.drop_length] at hz
          cases hz
          rw [List.append_nil] at ha
          subst ha
          exact k acc s9 F1 H1 D' F' H' e1 hD G' hg
      · rw [if_neg hf] at hg
        exact absurd hg (T.bad F H)
end
end DL

set_option Elab.async false
set_option linter.all false
set_option maxRecDepth 100000
set_option maxHeartbeats 4000000
/-! The data layer: rules of comprehensions with two clauses; sorted(set); sorted(tuple). -/
namespace DL
open PySem PySem.Spec PyProof.Rows L2 SG
section
variable {X : Cx} {fa : Option FA} {Wσ : L2.St → XK} {W : XK}
theorem none_of_ext {F H F1 H1 : Hp} {p : Addr} (e : Ext fa F H F1 H1) (h : H1 p = none) : H p = none := by
  cases z : H p with
  | none => rfl
  | some u => exact absurd h (e.al p (by rw [z]; simp))
theorem nok_lc2 {wi : TI} {it it1 : Env' → M (List D)} {b b1 : D → Option Asg} {c c1 : Env' → M Bool} {f : Env' → M D} {vs ns vs1 ns1 : List Nat} (ki : IOk X fa Wσ wi it) (hin : ∀ n ∈ ns, n ∈ vs) (hin1 : ∀ n ∈ ns1, n ∈ vs1) (hni1 : ∀ n ∈ vs1, n ∈ ns1) :
    NOk X fa Wσ (tLc2 wi (gStar X ns b) (tStarB X fa Wno c) (iStar X fa Wno it1) (gStar X ns1 b1) (tStarB X fa Wno c1) (tStar X fa Wno f) vs vs1) (dLc2 sizeLine (fun _ => true) vs it b c it1 b1 c1 f) := by
  intro σ F H ρ s Q h1 h2 h3 hg
  refine g2_run (C := accL X fa) (Gd := fun F H (r : Res (List D)) => GoodN X fa (Wσ σ) F H r Q) (rest := M.pure) ki hin hin1 hni1 GoodN.tgt h1 h2 h3 ?_ fun ys s' F1 H1 D' F' H' e1 hD G hg' => ?_
  · show GoodN X fa (Wσ σ) F H ((dLc2 sizeLine (fun _ => true) vs it b c it1 b1 c1 f ρ s).bnd M.pure) Q
    cases q : dLc2 sizeLine (fun _ => true) vs it b c it1 b1 c1 f ρ s <;> (rw [q] at hg; exact hg)
  · obtain ⟨u, hu, av, rfl, rl⟩ := G.at_
    exact hg' D' av F' H' (e1.trans G.ext) G.fd (none_of_ext e1 hD) G.fD hu rl
abbrev BlkD (X : Cx) (scope : Scope) (T : Cx → Prop) : Prop := ∀ (s : Shared) (H : Hp) (C : Addr) (cl : List (Str × Addr)) (fp : List Addr), T (X.blk s H scope (compEnvC scope cl C X.env) fp)
/-- [elt for tg in iter if .. for tg1 in iter1 if ..] -/
theorem nd_lc2 {tg iter elt tg1 iter1 : Expr} {ifs ifs1 : List Expr} {scope : Scope} {own : List (Str × Nat)} {pos : Pos} {it it1 : Env' → M (List D)} {b b1 : D → Option Asg} {c c1 : Env' → M Bool} {f : Env' → M D} {ns ns1 vs1 vs : List Nat} (hc : X.calm = true) (hN : X.N.Nodup) (hi : IJ X fa Wσ tg iter it) (ok : BlkOk X.N X.env.scope scope own)
    (hv : ∀ i ∈ vs1, i ∈ own.map (·.2)) (hin : ∀ n ∈ ns, n ∈ own.map (·.2)) (hin1 : ∀ n ∈ ns1, n ∈ vs1) (hni1 : ∀ n ∈ vs1, n ∈ ns1)
    (hg : BlkD X scope fun Y => TJ Y tg ns b) (ht : BlkD X scope fun Y => PTsD Y fa Wno ifs c) (hi1 : BlkD X scope fun Y => IJ Y fa Wno tg1 iter1 it1) (hg1 : BlkD X scope fun Y => TJ Y tg1 ns1 b1) (ht1 : BlkD X scope fun Y => PTsD Y fa Wno ifs1 c1) (he : BlkD X scope fun Y => ED Y fa Wno elt f)
    (hs : ∀ x, foldedSetIterable iter X.env x = pure x := by intro _; rfl) (hs1 : ∀ env x, foldedSetIterable iter1 env x = pure x := by intro _ _; rfl) (hvs : own.map (·.2) = vs := by rfl) :
    ND X fa Wσ (.ListComp elt [⟨tg, iter, ifs, 0⟩, ⟨tg1, iter1, ifs1, 0⟩] scope pos) (dLc2 sizeLine (fun _ => true) vs it b c it1 b1 c1 f) := by
  subst hvs
  obtain ⟨wi, pi, ki⟩ := hi
  exact ⟨_, pe_lc2 (wi1 := iStar X fa Wno it1) (tt := tStarB X fa Wno c) (tt1 := tStarB X fa Wno c1) (te := tStar X fa Wno f) (g := gStar X ns b) (g1 := gStar X ns1 b1) hc hN pi ok hv (fun s H C cl fp => (hg s H C cl fp).star) (fun s H C cl fp => (ht s H C cl fp).star) (fun s H C cl fp => (hi1 s H C cl fp).star)
    (fun s H C cl fp => (hg1 s H C cl fp).star) (fun s H C cl fp => (ht1 s H C cl fp).star) (fun s H C cl fp => (he s H C cl fp).star) hs hs1, nok_lc2 ki hin hin1 hni1⟩
/-- y = [.. for .. for ..] -/
theorem sj_setLc2 {tg iter elt tg1 iter1 : Expr} {ifs ifs1 : List Expr} {scope : Scope} {own : List (Str × Nat)} {pos spos py : Pos} {i : Nat} {y : Str} {it it1 : Env' → M (List D)} {b b1 : D → Option Asg} {c c1 : Env' → M Bool} {f : Env' → M D} {ns ns1 vs1 vs : List Nat} (hc : X.calm = true) (hN : X.N.Nodup) (hi : IJ X fa (fun _ => W) tg iter it) (ok : BlkOk X.N X.env.scope scope own)
    (hv : ∀ i ∈ vs1, i ∈ own.map (·.2)) (hin : ∀ n ∈ ns, n ∈ own.map (·.2)) (hin1 : ∀ n ∈ ns1, n ∈ vs1) (hni1 : ∀ n ∈ vs1, n ∈ ns1)
    (hg : BlkD X scope fun Y => TJ Y tg ns b) (ht : BlkD X scope fun Y => PTsD Y fa Wno ifs c) (hi1 : BlkD X scope fun Y => IJ Y fa Wno tg1 iter1 it1) (hg1 : BlkD X scope fun Y => TJ Y tg1 ns1 b1) (ht1 : BlkD X scope fun Y => PTsD Y fa Wno ifs1 c1) (he : BlkD X scope fun Y => ED Y fa Wno elt f)
    (hy : X.N[i]? = some y := by rfl) (hyl : X.env.scope.names.lookup y = some .local := by rfl) (hsw : swapsWith (.ListComp elt [⟨tg, iter, ifs, 0⟩, ⟨tg1, iter1, ifs1, 0⟩] scope pos) (some (.Name y py)) spos.line X.env = pure true := by exact sw_true rfl rfl rfl (by decide +kernel))
    (hs : ∀ x, foldedSetIterable iter X.env x = pure x := by intro _; rfl) (hs1 : ∀ env x, foldedSetIterable iter1 env x = pure x := by intro _ _; rfl) (hvs : own.map (·.2) = vs := by rfl) :
    SJ X fa W (.Assign [.Name y py] (.ListComp elt [⟨tg, iter, ifs, 0⟩, ⟨tg1, iter1, ifs1, 0⟩] scope pos) spos) (gSet i (vNew (dLc2 sizeLine (fun _ => true) vs it b c it1 b1 c1 f))) := by
  subst hvs
  obtain ⟨wi, pi, ki⟩ := hi
  exact sj_asg (ps_setLc2 (wi1 := iStar X fa Wno it1) (tt := tStarB X fa Wno c) (tt1 := tStarB X fa Wno c1) (te := tStar X fa Wno f) (g := gStar X ns b) (g1 := gStar X ns1 b1) hc hN hy hyl hsw pi ok hv (fun s H C cl fp => (hg s H C cl fp).star) (fun s H C cl fp => (ht s H C cl fp).star) (fun s H C cl fp => (hi1 s H C cl fp).star)
    (fun s H C cl fp => (hg1 s H C cl fp).star) (fun s H C cl fp => (ht1 s H C cl fp).star) (fun s H C cl fp => (he s H C cl fp).star) hs hs1) (vok_new (nok_lc2 ki hin hin1 hni1))

/-! ### sorted({..}) -/
def dd : List Str → List Str
  | [] => []
  | x :: r => if x ∈ r then dd r else x :: dd r
theorem dd_mem (x : Str) : ∀ l : List Str, x ∈ dd l ↔ x ∈ l
  | [] => Iff.rfl
  | y :: r => by
    unfold dd
    split
    · rename_i h
      rw [dd_mem x r, List.mem_cons]
      exact ⟨.inr, fun q => q.elim (fun e => e ▸ h) id⟩
    · rw [List.mem_cons, List.mem_cons, dd_mem x r]
theorem dd_nodup : ∀ l : List Str, (dd l).Nodup
  | [] => List.Pairwise.nil
  | y :: r => by
    unfold dd
    split
    · exact dd_nodup r
    · rename_i h
      exact List.nodup_cons.mpr ⟨fun q => h ((dd_mem y r).mp q), dd_nodup r⟩
/-- the members of a set of texts, ascending -/
def sortDd (ks : List Str) : List Str := sortS (dd ks)
theorem sortDd_eq {ks l : List Str} (h1 : l.Nodup) (h2 : ∀ k, k ∈ l ↔ k ∈ ks) (h3 : sortedS l = true) : l = sortDd ks := by
  refine sortS_eq ?_ h3
  refine (List.perm_ext_iff_of_nodup h1 (dd_nodup ks)).mpr fun k => ?_
  rw [h2, dd_mem]
def sortSetD (xs : List D) : Option D := (strsD xs).map fun ks => .lst ((sortDd ks).map .str)
theorem strsD_map (ks : List Str) : strsD (ks.map D.str) = some ks := by
  induction ks with
  | nil => rfl
  | cons k r ih => show (strsD (r.map D.str)).map _ = _; rw [ih]; rfl
def dSortSet2 (vs : List Nat) (it : Env' → M (List D)) (b : D → Option Asg) (c : Env' → M Bool) (it1 : Env' → M (List D)) (b1 : D → Option Asg) (c1 : Env' → M Bool) (f : Env' → M D) : Env' → M D := fun ρ => (dLc2 4000 isStrD vs it b c it1 b1 c1 f ρ).bind fun ys => M.lift (sortSetD ys)
theorem ed_sortSet2 {tg iter elt tg1 iter1 : Expr} {ifs ifs1 : List Expr} {scope : Scope} {own : List (Str × Nat)} {pos p cpos : Pos} {it it1 : Env' → M (List D)} {b b1 : D → Option Asg} {c c1 : Env' → M Bool} {f : Env' → M D} {ns ns1 vs1 vs : List Nat} (hm : X.mg "sorted" = none) (hc : X.calm = true) (hN : X.N.Nodup) (hi : IJ X fa Wσ tg iter it) (ok : BlkOk X.N X.env.scope scope own)
    (hv : ∀ i ∈ vs1, i ∈ own.map (·.2)) (hin : ∀ n ∈ ns, n ∈ own.map (·.2)) (hin1 : ∀ n ∈ ns1, n ∈ vs1) (hni1 : ∀ n ∈ vs1, n ∈ ns1)
    (hg : BlkD X scope fun Y => TJ Y tg ns b) (ht : BlkD X scope fun Y => PTsD Y fa Wno ifs c) (hi1 : BlkD X scope fun Y => IJ Y fa Wno tg1 iter1 it1) (hg1 : BlkD X scope fun Y => TJ Y tg1 ns1 b1) (ht1 : BlkD X scope fun Y => PTsD Y fa Wno ifs1 c1) (he : BlkD X scope fun Y => ED Y fa Wno elt f)
    (hs : ∀ x, foldedSetIterable iter X.env x = pure x := by intro _; rfl) (hs1 : ∀ env x, foldedSetIterable iter1 env x = pure x := by intro _ _; rfl) (hvs : own.map (·.2) = vs := by rfl) (hgl : Gl X "sorted" := by rfl)
    (hst : starEach [.SetComp elt [⟨tg, iter, ifs, 0⟩, ⟨tg1, iter1, ifs1, 0⟩] scope pos] X.env = [(false, eval (.SetComp elt [⟨tg, iter, ifs, 0⟩, ⟨tg1, iter1, ifs1, 0⟩] scope pos) X.env)] := by rfl) :
    ED X fa Wσ (.Call (.Name "sorted" p) [.SetComp elt [⟨tg, iter, ifs, 0⟩, ⟨tg1, iter1, ifs1, 0⟩] scope pos] [] cpos) (dSortSet2 vs it b c it1 b1 c1 f) := by
  subst hvs
  obtain ⟨wi, pi, ki⟩ := hi
  have pe := pe_set2 (kk := kkStr X.prog X.w) (wi1 := iStar X fa Wno it1) (tt := tStarB X fa Wno c) (tt1 := tStarB X fa Wno c1) (te := tStar X fa Wno f) (g := gStar X ns b) (g1 := gStar X ns1 b1) (pos := pos) hc hN pi ok hv (fun s H C cl fp => (hg s H C cl fp).star) (fun s H C cl fp => (ht s H C cl fp).star) (fun s H C cl fp => (hi1 s H C cl fp).star)
    (fun s H C cl fp => (hg1 s H C cl fp).star) (fun s H C cl fp => (ht1 s H C cl fp).star) (fun s H C cl fp => (he s H C cl fp).star) hs hs1
  refine ⟨_, pe_callB (cr_sortSetS hc) hgl hm (by decide +kernel) (pa_cons pe pa_nil hst), fun σ F H ρ s Q h1 h2 h3 h => ?_⟩
  change tSet2 (kkStr X.prog X.w) wi (gStar X ns b) (tStarB X fa Wno c) (iStar X fa Wno it1) (gStar X ns1 b1) (tStarB X fa Wno c1) (tStar X fa Wno f) (own.map (·.2)) vs1 σ H (fun x H' => rSortG (kkStr X.prog X.w) (fun l => sortedS l = true) [x] H' Q)
  show tG2 (accS X fa).u0 (accS X fa).item wi (gStar X ns b) (tStarB X fa Wno c) (iStar X fa Wno it1) (gStar X ns1 b1) (tStarB X fa Wno c1) (tStar X fa Wno f) (own.map (·.2)) vs1 σ H (fun x H' => rSortG (kkStr X.prog X.w) (fun l => sortedS l = true) [x] H' Q)
  refine g2_run (C := accS X fa) (Gd := fun F H (r : Res D) => Good X fa (Wσ σ) F H r Q) (rest := fun ys => M.lift (sortSetD ys)) ki hin hin1 hni1 Good.tgt h1 h2 h3 h fun ys s' F1 H1 D' F' H' e1 hD G hg' => ?_
  obtain ⟨u, hu, ks, S, n, rfl, rfl, hn, hmem⟩ := G.at_
  refine ⟨D', S, n, rfl, hu, fun l q hnd hl hsrt hq => ?_⟩
  have e : l = sortDd ks := sortDd_eq hnd (fun k => (hl k).trans (hmem k)) hsrt
  unfold sortSetD at hg'
  rw [strsD_map] at hg'
  subst e
  have hg2 := Good.tgt.of_ext (e1.trans G.ext) hg'
  exact Good.new G.ext.fh G.fd hq (.lst upd_same (repL_strs _)) hg2

/-! ### sorted(a tuple of ints) -/
theorem collect_tup {A : Around} {P : Program} {w : World} {E : Value → Shared → Prop} {s : Shared} {l : Addr} {vs : List Value} {Q : List Value → Shared → Prop} (hl : s.heap.IsTuple l vs.toArray)
    (h : Q vs { s with heap := (s.heap.push (seqObj "list" #[] 0)).update s.heap.objs.size (Obj.mapSeq (· ++ vs.toArray)) }) (hsz : vs.length ≤ sizeLine) : wpAny (model P w) A (collect (.ref l)) Q E s := by
  obtain ⟨o, ho, hc, n, hd⟩ := id hl
  unfold collect
  refine wpAny_bind (wpAny_runValue (codeAny_builtin entry_proto_collect' ?_))
  show wpAny _ _ (do again (.builtin "list.__iadd__" ⟨[← newList [], .ref l], []⟩)) _ _ s
  refine wpAny_bind (wpAny_newList (wpAny_pure ⟨Code.quiet_builtin _ (by decide +kernel), codeAny_builtin entry_list_iadd' ?_⟩))
  show wpAny _ _ (Builtin.List.listExtendWith (.ref s.heap.objs.size) (.ref l) (.ref s.heap.objs.size)) _ _ { s with heap := s.heap.push (seqObj "list" #[] 0) }
  unfold Builtin.List.listExtendWith
  have ho' : (s.heap.push (seqObj "list" #[] 0)).get? l = some o := Heap.get?_push_of_some _ ho
  have hnew : (s.heap.push (seqObj "list" #[] 0)).get? s.heap.objs.size = some (seqObj "list" #[] 0) := Heap.get?_push_size _ rfl
  refine wpAny_bind (wpAny_typeOf (T := "tuple") ⟨o, ho', hc⟩ ?_)
  have ht : (Value.type "tuple" == Value.type "tuple") = true := by rfl
  rw [if_pos (by rw [ht]; simp)]
  refine wpAny_bind (listItems_at ho' hd (wpAny_bind (listItems_at (xs := #[]) (n := 0) hnew rfl ?_)))
  rw [if_neg (by simp)]
  refine wpAny_bind (listUpdate_at (xs := #[]) (n := 0) hnew rfl ?_ (Nat.zero_le _) (by show (#[] ++ vs.toArray).size ≤ sizeLine + 1; simp only [Array.size_append, List.size_toArray, List.length_nil]; omega))
  refine wpAny_pure ?_
  show wpAny (model P w) A (do
      let o ← load s.heap.objs.size
      match o.data with
      | .seq xs _ => pure xs.toList
      | _ => unsupported "internal:collect") Q E { s with heap := (s.heap.push (seqObj "list" #[] 0)).update s.heap.objs.size (Obj.mapSeq (· ++ vs.toArray)) }
  refine wpAny_bind (wpAny_load (get?_update_seq hnew _) ?_)
  show wpAny _ _ (pure ((#[] : Array Value) ++ vs.toArray).toList) Q E _
  rw [show ((#[] : Array Value) ++ vs.toArray).toList = vs by simp]
  exact wpAny_pure h
theorem sorted_tupI {A : Around} {P : Program} {w : World} {E : Value → Shared → Prop} {s : Shared} {l : Addr} {vs : List Value} {ns : List Int} {Q : Value → Shared → Prop} (hl : s.heap.IsTuple l vs.toArray) (hI : IntsAre vs ns) (hL : vs.length ≤ sizeLine)
    (h : ∀ (out : Array Value) (ns' : List Int), IntsAre out.toList ns' → ns'.Perm ns → ns'.Pairwise (· ≤ ·) → Q (.ref (s.heap.objs.size + 1)) { s with heap := sortedAll s.heap vs out }) :
    wpAny (model P w) A (call (.builtin "sorted") [.ref l]) Q E s := by
  refine Calls.call_function_entry kind_sorted plain_sorted entry_sorted (args_sorted1 _) ?_
  unfold Builtin.«sorted»
  refine wpAny_bind (m := checkCount "sorted" 1 1 _) (wpAny_pure (wpAny_bind (collect_tup hl ?_ hL)))
  refine wpAny_bind (wpAny_newList ?_ hL)
  have hsz : ((s.heap.push (seqObj "list" #[] 0)).update s.heap.objs.size (Obj.mapSeq (· ++ vs.toArray))).objs.size = s.heap.objs.size + 1 := by
    rw [Heap.size_update, size_push']
  have hoL : (((s.heap.push (seqObj "list" #[] 0)).update s.heap.objs.size (Obj.mapSeq (· ++ vs.toArray))).push (seqObj "list" vs.toArray 0)).get? (s.heap.objs.size + 1) = some (seqObj "list" vs.toArray 0) := by
    rw [← hsz]; exact Heap.get?_push_size _ rfl
  show wpAny _ _ _ _ _ { s with heap := ((s.heap.push (seqObj "list" #[] 0)).update s.heap.objs.size (Obj.mapSeq (· ++ vs.toArray))).push (seqObj "list" vs.toArray 0) }
  rw [hsz]
  refine wpAny_bind (wpAny_holding (wpAny_call_entry slot_list_sort ⟨_, hoL, rfl⟩ entry_list_sort (list_sort_treeAny hoL hI hL fun out ns' a1 a2 a3 => ⟨_, rfl, wpAny_pure ⟨_, rfl, h out ns' a1 a2 a3⟩⟩) (args_list_sort _)))
end
section
variable {X : Cx} {fa : Option FA}
def rSortTI (K : PySem.W.Frag) : List V → Hp → VK → Prop := fun vs H Q => ∃ (a : Addr) (ns : List Int), vs = [V.ref a] ∧ SqT K H a (ns.map V.int) ∧ ns.length ≤ sizeLine ∧ ∀ (ys : List Int) (p : Addr), ys.Perm ns → ys.Pairwise (· ≤ ·) → H p = none → Q (.ref p) (upd H p (.lst (ys.map V.int)))
theorem cr_sortTI : CallR X (.builtin "sorted") (rSortTI X.K) := by
  intro pins s σ H vs us Q I r h
  obtain ⟨a, ns, rfl, hs, hl, q⟩ := h
  obtain ⟨its, rv, ht, hz⟩ := I.tuple hs
  rw [Vals.ref1 r]
  have hlen := rv.length
  rw [List.length_map] at hlen
  refine sorted_tupI ht rv.ints (by rw [← hlen]; exact hl) fun out ys h1 h2 h3 => ?_
  obtain ⟨ep, he'⟩ := PyProof.Rows.sortedAll_at s.heap its out
  refine ⟨.ref _, upd H (s.heap.objs.size + 1) (.lst (ys.map V.int)), I.laid (t' := s.toks) (fun _ _ => PyProof.Rows.sortedAll_old) (Nat.le_succ _) ⟨by rw [List.length_map, h2.length_eq]; exact hl, out.toList, ep, vals_of_ints h1, he'⟩, rfl, q ys _ h2 h3 (I.hok.fresh (Nat.le_succ _))⟩
def sortedTD : List D → Option D
  | [.tup xs] => if xs.length ≤ sizeLine then (intsD xs).map fun ns => .lst ((sortI ns).map .int) else none
  | _ => none
theorem ok_sortTI : CallOk X fa (rSortTI X.K) sortedTD := by
  intro F H s xs as Q h1 h2 r h
  cases r with
  | nil => exact h.elim
  | cons r t =>
    cases t with
    | cons _ _ => cases r <;> exact h.elim
    | nil =>
      cases r with
      | @tup a xs vs hq r =>
        by_cases hl : xs.length ≤ sizeLine
        · rw [show sortedTD [.tup xs] = (intsD xs).map fun ns => .lst ((sortI ns).map .int) from if_pos hl] at h
          cases q2 : intsD xs with
          | none => rw [q2] at h; exact h.elim
          | some ns =>
            rw [q2] at h
            have e := intsD_rep q2 r
            subst e
            refine ⟨a, ns, rfl, same_seqT h1 hq, by have := r.length; simp at this; omega, fun ys p hp hs hn => ?_⟩
            rw [sortI_eq hp hs]
            exact GoodO.new h1 h2 hn (.lst upd_same (RepL.ints _)) h
        · rw [show sortedTD [.tup xs] = none from if_neg hl] at h
          exact h.elim
      | _ => exact h.elim
end
end DL

set_option Elab.async false
set_option linter.all false
set_option maxRecDepth 100000
set_option maxHeartbeats 2000000
/-! The data layer: defs with *v, star calls, the module's tables, class constants, list(range), join. -/
namespace DL
open PySem PySem.Spec PyProof.Rows L2
/-! ### calls by position, however they are bound -/
structure CalP (P : Program) (w : World) (K : PySem.W.Frag) (mg : Str → Option Value) (base : Heap) (k : Nat) (x : Str) (g : List D → M D) : Prop where
  ex : ∃ f, FnR P w K mg base (L2.CX P w) k f (DSp K mg g) ∧ mg x = some (.ref f) ∧ PySem.W.keepIn K (.ref f) = true
/-- n parameters, the rest a tuple -/
def starD (n : Nat) (g : List D → M D) : List D → M D := fun ds => if n ≤ ds.length ∧ ds.length - n ≤ sizeLine then g (ds.take n ++ [.tup (ds.drop n)]) else M.bad
section
variable {P : Program} {w : World} {K : PySem.W.Frag} {mg : Str → Option Value} {base : Heap}
theorem CalP.mono {j k : Nat} {x : Str} {g : List D → M D} (C : CalP P w K mg base j x g) (h : j ≤ k) : CalP P w K mg base k x g := by
  obtain ⟨f, F, m, kp⟩ := C.ex
  exact ⟨f, F.mono h, m, kp⟩
theorem GoodK.ext {fa : Option FA} {W : XK} {F H F' H' : Hp} {r : Res D} {Q : VK} (e : Ext fa F H F' H') (h : GoodK K mg fa W F H r Q) : GoodK K mg fa W F' H' r Q := by
  cases r with
  | bad => exact h
  | ok d s => exact fun v F2 H2 e2 => h v F2 H2 (e.trans e2)
  | err x s => exact fun c dd F2 H2 e2 => h c dd F2 H2 (e.trans e2)
theorem star_sp {n : Nat} {g : List D → M D} {vs : List V} {H : Hp} {Q : VK} {E : XK} (h : DSp K mg (starD n g) vs H Q E) :
    ∃ ws rest, vs = ws ++ rest ∧ ws.length = n ∧ rest.length ≤ sizeLine ∧ ∀ p, H p = none → DSp K mg g (ws ++ [V.ref p]) (upd H p (.tup rest)) Q E := by
  obtain ⟨fa, F, s, ds, h1, h2, r, gd⟩ := h
  unfold starD at gd
  by_cases hl : n ≤ ds.length ∧ ds.length - n ≤ sizeLine
  · rw [if_pos hl] at gd
    have l := r.length
    refine ⟨vs.take n, vs.drop n, (List.take_append_drop n vs).symm, by rw [List.length_take]; omega, by rw [List.length_drop]; omega, fun p hp => ?_⟩
    have e : Ext fa F H (upd F p (.tup (vs.drop n))) (upd H p (.tup (vs.drop n))) := Ext.new h1 hp
    exact ⟨fa, _, s, ds.take n ++ [.tup (ds.drop n)], e.fh, h2.new h1 hp, ((r.take n).mono e.ff).append (.cons (.tup (SqT.of upd_same) ((r.drop n).mono e.ff)) .nil), GoodK.ext e gd⟩
  · rw [if_neg hl] at gd
    exact gd.elim
/-- def f(.., *v) -/
theorem fn_starD {x qual : Str} {st : Stmt} {f : Addr} {oc : Value} {od an : Option Addr} {osl : Array (Option Value)} {dV kV doc pm cdv ct : Value} {N ps : List Str} {pv : Str} {k : Nat} {body : Sts → M (Fl × Sts)}
    (lk : K.lookup f = some ⟨oc, od, .func (PySem.W.fnOf x qual (defArgs st) (defBody st) (defScope st) dV kV doc pm an cdv ct), osl⟩) (hcd : PySem.W.codeIn K cdv qual = true) (S : FnScope N (ps ++ [pv]) (defScope st)) (hN : (ps ++ [pv]).length ≤ N.length)
    (hb : ∀ us rest : List Value, us.length = ps.length → bindArgs (PySem.W.fnOf x qual (defArgs st) (defBody st) (defScope st) dV kV doc pm an cdv ct) ⟨us ++ rest, []⟩ = (newTuple rest >>= fun t => pure (ps.zip us ++ [(pv, t)])))
    (hbody : ∀ (cdv : Value) (A : Around) (outer : List Env) (s : Shared) (H : Hp) (E : XK) (fa : Option FA), Room k (A.deeper (envOfC qual (defScope st) s.heap.objs.size f cdv)) →
      SSJ (cxOf (L2.CX P w) P w K mg base N qual (defScope st) f cdv A outer s H E) fa E (defBody st) body) :
    FnR P w K mg base (L2.CX P w) (k + 1) f (DSp K mg (starD ps.length (runD N.length (ps ++ [pv]).length body))) := by
  refine FnR.imp (StX.fn_star (sp := DSp K mg (runD N.length (ps ++ [pv]).length body)) (k := k) (P := P) (w := w) (mg := mg) (base := base) lk hcd S StX.cxUp hb fun A outer s H vs Q E hr h => ?_) fun vs H Q E h => star_sp h
  · have hl := dsp_len h
    obtain ⟨fa, Fz, fs, ds, h1, h2, r, g⟩ := h
    obtain ⟨t, p, kk⟩ := hbody cdv A outer s H E fa hr
    refine ⟨t, p, ?_⟩
    unfold runD at g
    have e : ds.length = (ps ++ [pv]).length := by rw [r.length]; exact hl
    rw [if_pos e] at g
    have S0 := SOk.start (N := N) h1 h2 r (by omega)
    rw [e] at S0
    refine kk Fz Fz H Fz H _ _ _ fs _ S0 ?_
    change GoodK K mg fa E Fz H ((body (ds.map EV.d ++ List.replicate (N.length - (ps ++ [pv]).length) .no) fs).bnd _) Q at g
    generalize body (ds.map EV.d ++ List.replicate (N.length - (ps ++ [pv]).length) .no) fs = rr at g
    cases rr with
    | bad => exact g
    | err e s' => exact g
    | ok q s' =>
      obtain ⟨fl, ρ'⟩ := q
      cases fl with
      | nx => exact fun σ' F' H' A' S' => g .non F' H' S'.ext S'.fd .non
      | rt d => exact fun v F' H' ex fo rv _ => g v F' H' ex fo rv
      | bk => exact g.elim
      | ct => exact g.elim
end
section
variable {X : Cx} {fa : Option FA} {W : L2.St → XK} {a b c e o : Expr} {es rest : List Expr} {pos p sp_ apos cpos : Pos} {f1 f2 f3 : Env' → M D} {fl : Env' → M (List D)} {k : Nat} {t : TA} {te : TE}
theorem run_RS {pins : List (Addr × Obj)} {σ : L2.St} {H : Hp} {s : Shared} {f : Addr} {sp : Sp} {E : XK} {Q : VK} {us : List Value} {vs : List V} (F : FnR X.prog X.w X.K X.mg X.base (L2.CX X.prog X.w) k f sp) (hr : Room k X.A) (hx : PassesAt (L2.CX X.prog X.w) X σ E) (I : Inv X pins σ H s) (r : Vals vs us) (h : sp vs H Q E) :
    wpAny (model X.prog X.w) X.A (call (.ref f) us) (EP X pins σ Q) X.xe s := by
  refine wpAny_call (codeAny_mono (F X.A X.stack s H us vs Q E hr I.env0 r h) fun rr s' hq => ?_)
  cases rr with
  | error e => exact hx pins H s e s' I hq
  | ok fl =>
    cases fl with
    | ret u => exact I.after hq
    | next => exact False.elim hq
    | brk => exact False.elim hq
    | cont => exact False.elim hq
/-- f(e, ..) -/
theorem ed_calP {g : List D → M D} {x : Str} (C : CalP X.prog X.w X.K X.mg X.base k x g) (hr : Room k X.A) (hx : ∀ σ, PassesAt (L2.CX X.prog X.w) X σ (W σ)) (ha : LD X fa W (e :: es) fl) (hg : Gl X x := by rfl) (hdb : (x == ("__debug__" : Str)) = false := by decide)
    (he : starEach (e :: es) X.env = (false, eval e X.env) :: starEach es X.env := by rfl) (hpl : (backTo pos (starEach es X.env)).any (·.1) = false := by rfl) : ED X fa W (.Call (.Name x p) (e :: es) [] pos) (dCall g fl) := by
  obtain ⟨f, F, hm, hk⟩ := C.ex
  obtain ⟨ta, pa, ka⟩ := ha
  refine ⟨fun σ H Q => ta σ H fun vs H1 => DSp X.K X.mg g vs H1 Q (W σ), ⟨fun pins s σ H Q I h => ?_⟩, fun σ F H ρ s Q h1 h2 h3 h => ?_⟩
  · refine wpAny_Call_Name_kw (ld_glob I hg hm ?_ hdb)
    refine PySem.W.callWith_K (h₀ := X.base) I.ok.mod.kin hk (thn (pa.run pos pins s σ H _ I h) fun us s1 ⟨vs, H1, I1, r, q⟩ => ⟨I1.kIn, ?_⟩) he hpl
    exact run_RS F hr (hx σ) I1 r q
  · refine ka.then Good.tgt h1 h2 h3 h fun xs s1 vs F1 H1 e1 o1 r1 v1 h' => ?_
    exact ⟨fa, F1, s1, xs, e1.fh, o1, r1, h'⟩
/-- f(*e) -/
def dCallS (g : List D → M D) (f1 : Env' → M D) : Env' → M D := fun ρ => (f1 ρ).bind fun x => (M.lift (seqD x)).bind g
theorem ed_calS {g : List D → M D} {x : Str} (C : CalP X.prog X.w X.K X.mg X.base k x g) (hr : Room k X.A) (hx : ∀ σ, PassesAt (L2.CX X.prog X.w) X σ (W σ)) (ha : ED X fa W e f1) (hg : Gl X x := by rfl) (hdb : (x == ("__debug__" : Str)) = false := by decide)
    (hst : starEach [.Starred e sp_] X.env = [(true, eval e X.env)] := by rfl) : ED X fa W (.Call (.Name x p) [.Starred e sp_] [] pos) (dCallS g f1) := by
  obtain ⟨f, F, hm, hk⟩ := C.ex
  obtain ⟨ta, pa, ka⟩ := ha
  refine ⟨fun σ H Q => ta σ H fun y H1 => ∃ a xs, y = V.ref a ∧ (SqT X.K H1 a xs ∨ SqL X.K H1 a xs) ∧ DSp X.K X.mg g xs H1 Q (W σ), ⟨fun pins s σ H Q I h => ?_⟩, fun σ F H ρ s Q h1 h2 h3 h => ?_⟩
  · refine wpAny_Call_Name_kw (ld_glob I hg hm ?_ hdb)
    refine PySem.W.callWith_S (h₀ := X.base) I.ok.mod.kin hk (thn (pa.run pins s σ H _ I h) fun v s1 ⟨y, H1, I1, ry, a, xs, ey, hxs, q⟩ => ?_) hst
    subst ey
    obtain rfl : v = Value.ref a := ry
    exact StX.star_any I1 hxs fun us s2 I2 rv => ⟨I2.kIn, run_RS F hr (hx σ) I2 rv q⟩
  · refine ka.then Good.tgt h1 h2 h3 h fun x s1 v F1 H1 e1 o1 r1 v1 h' => ?_
    change Good X fa (W σ) F1 H1 (((M.lift (seqD x)).bind g) s1) Q at h'
    cases r1 with
    | tup hq rl => exact ⟨_, _, rfl, .inl (same_seqT e1.fh hq), fa, F1, s1, _, e1.fh, o1, rl, h'⟩
    | lst hq rl => exact ⟨_, _, rfl, .inr (SqL.of (e1.fh _ _ hq)), fa, F1, s1, _, e1.fh, o1, rl, h'⟩
    | _ => exact h'.elim

/-! ### the module's tuples -/
/-- the module's name x holds a tuple of such values -/
def TupC (K : PySem.W.Frag) (mg : Str → Option Value) (x : Str) (ds : List D) : Prop := ∃ a vs, mg x = some (.ref a) ∧ (∀ F, SqT K F a vs) ∧ ∀ fa F, RepL K fa F ds vs
theorem ed_tupC {x : Str} {ds : List D} (h : TupC X.K X.mg x ds) (hg : Gl X x := by rfl) (hd : (x == ("__debug__" : Str)) = false := by decide) : ED X fa W (.Name x pos) (dC (.tup ds)) := by
  obtain ⟨a, vs, hm, hs, hr⟩ := h
  exact ed_glob (.tup ds) (fun F => .tup (hs F) (hr fa F)) hm (v := .ref a) rfl hg hd
theorem tupC_mk {K : PySem.W.Frag} {h : Heap} {mg : Str → Option Value} {x : Str} {a : Addr} {dct : Option Addr} {its : Array Value} {n : Nat} {sl : Array (Option Value)} {vs : List V} {ds : List D} (X : K.In h) (G : h.Ns mainGlobals mg)
    (e : PySem.W.nsIn K mainGlobals x = some (some (.ref a))) (l : K.lookup a = some ⟨.type "tuple", dct, .seq its n, sl⟩) (rv : Vals vs its.toList) (hr : ∀ fa F, RepL K fa F ds vs) (hz : its.size ≤ 1000) : TupC K mg x ds :=
  ⟨a, vs, PySem.W.mg_of X G e, fun F => .inr ⟨_, its, n, l, rfl, rfl, by rw [sizeLine_eq]; omega, rv⟩, hr⟩

/-! ### the module's dicts with text keys -/
def entI (e : DictEntry) : Option (Str × Int) := match e.key, e.val with
  | .str k _, .int n _ => some (k, n)
  | _, _ => none
structure KTab (K : PySem.W.Frag) (w : World) (mg : Str → Option Value) (x : Str) (tab : List (Str × Int)) : Prop where
  ex : ∃ a es n, mg x = some (.ref a) ∧ KDict K w a es n ∧ es.toList.map entI = tab.map some
theorem ent_find (z : Str) : ∀ {es : List DictEntry} {tab : List (Str × Int)}, es.map entI = tab.map some → (match tab.lookup z with
    | some n => ∃ e t, es.find? (fun e => e.key.isStr z) = some e ∧ e.val = .int n t
    | none => es.find? (fun e => e.key.isStr z) = none) ∧ es.any (·.refKey) = false
  | [], [], _ => ⟨rfl, rfl⟩
  | [], _ :: _, h => by cases h
  | _ :: _, [], h => by cases h
  | e :: es, (k, n) :: tab, h => by
    rw [List.map_cons, List.map_cons] at h
    injection h with h1 h2
    obtain ⟨i1, i2⟩ := ent_find z h2
    unfold entI at h1
    split at h1
    · rename_i k' t' n' t'' ek ev
      cases h1
      refine ⟨?_, ?_⟩
      · rw [List.lookup_cons]
        have hk : e.key.isStr z = (z == k) := by
          rw [ek]
          show (k == z) = (z == k)
          exact BEq.comm
        by_cases hz : z = k
        · subst hz
          rw [beq_self_eq_true]
          refine ⟨e, t'', ?_, ev⟩
          rw [List.find?_cons, hk, beq_self_eq_true]
        · have hz' : (z == k) = false := by simpa using hz
          rw [hz']
          rw [List.find?_cons, hk, hz']
          exact i1
      · rw [List.any_cons, i2, Bool.or_false]
        show e.refKey = false
        unfold DictEntry.refKey
        rw [ek]
    · cases h1
theorem ktab_ns {K : PySem.W.Frag} {w : World} {a : Addr} {es : Array DictEntry} {n : Nat} {tab : List (Str × Int)} (D : KDict K w a es n) (h : es.toList.map entI = tab.map some) (z : Str) :
    match tab.lookup z with
    | some i => ∃ t, PySem.W.nsIn K a z = some (some (.int i t))
    | none => PySem.W.nsIn K a z = some none := by
  obtain ⟨i1, i2⟩ := ent_find z h
  unfold PySem.W.nsIn
  rw [D.at_]
  dsimp only
  cases q : tab.lookup z with
  | none =>
    rw [q] at i1
    rw [i1, i2]
    rfl
  | some i =>
    rw [q] at i1
    obtain ⟨e, t, e1, e2⟩ := i1
    exact ⟨t, by rw [e1]; show some (some e.val) = _; rw [e2]⟩
end
end DL

set_option Elab.async false
set_option linter.all false
set_option maxRecDepth 100000
set_option maxHeartbeats 2000000
/-! The data layer: dict comprehensions; tuples of what an owned thing tells; the module's tables asked; class constants; list(range); join; list * int. -/
namespace DL
open PySem PySem.Spec PyProof.Rows L2

/-! ### dict comprehensions -/
def dcE (b : D → Option Asg) (c : Env' → M Bool) (kf vf : Env' → M D) : List D → Env' → List (Key × D) → M (List (Key × D))
  | [], _, acc => M.pure acc
  | x :: xs, ρ, acc => (M.lift (b x)).bind fun as => (c (setE as ρ)).bind fun k => if k = true then (kf (setE as ρ)).bind fun kk => (vf (setE as ρ)).bind fun z => (M.lift (keyD kk)).bind fun k => if acc.length < sizeLine then dcE b c kf vf xs ρ (putD acc k z) else M.bad
    else dcE b c kf vf xs ρ acc
def dDc (it : Env' → M (List D)) (b : D → Option Asg) (c : Env' → M Bool) (kf vf : Env' → M D) : Env' → M (List (Key × D)) := fun ρ => (it ρ).bind fun xs => M.quiet (dcE b c kf vf xs ρ [])
def GoodDn (X : Cx) (fa : Option FA) (W : XK) (F H : Hp) (r : Res (List (Key × D))) (Q : VK) : Prop :=
  match r with
  | .bad => False
  | .ok xs s' => ∀ p vs F' H', Ext fa F H F' H' → FeedOk X.K fa F' H' s' → H p = none → F' p = none → H' p = some (.dK vs) → RepK X.K fa F' xs vs → Q (.ref p) H'
  | .err e s' => ∀ cls dd F' H', Ext fa F H F' H' → FeedOk X.K fa F' H' s' → RepX X.K X.mg fa F' H' e cls dd → W cls dd H'
def DNOk (X : Cx) (fa : Option FA) (W : L2.St → XK) (t : TE) (f : Env' → M (List (Key × D))) : Prop :=
  ∀ (σ : L2.St) (F H : Hp) (ρ : Env') (s : FS) (Q : VK), Same F H → FeedOk X.K fa F H s → EnvOk X.K fa F σ ρ → GoodDn X fa (W σ) F H (f ρ s) Q → t σ H Q
/-- the state of its loop -/
structure DSt (X : Cx) (fa : Option FA) (F1 H1 : Hp) (D' : Addr) (F H : Hp) (acc : List (Key × D)) (s : FS) : Prop where
  ext : Ext fa F1 H1 F H
  fd : FeedOk X.K fa F H s
  fD : F D' = none
  nD : H1 D' = none
  nf : Nfa fa D'
  at_ : ∃ av, H D' = some (.dK av) ∧ RepK X.K fa F acc av
section
variable {X : Cx} {fa : Option FA} {Wσ : L2.St → XK} {W : XK} {F1 H1 F H F' H' : Hp} {D' : Addr} {acc : List (Key × D)} {s s' : FS}
theorem DSt.step (c : DSt X fa F1 H1 D' F H acc s) (e : Ext fa F H F' H') (fo : FeedOk X.K fa F' H' s') : DSt X fa F1 H1 D' F' H' acc s' := by
  obtain ⟨av, h, r⟩ := c.at_
  exact ⟨c.ext.trans e, fo, (e.fr D' (by rw [h]; simp)).trans c.fD, c.nD, c.nf, av, e.hh _ _ h c.nf, r.mono e.ff⟩
theorem DSt.put (c : DSt X fa F1 H1 D' F H acc s) {ys : List (Key × D)} {av : List (Key × V)} (r : RepK X.K fa F ys av) : DSt X fa F1 H1 D' F (upd H D' (.dK av)) ys s := by
  refine ⟨⟨c.ext.ff, fun b u z => ?_, fun b u z n => ?_, c.ext.fr, fun b z => ?_⟩, fun φ q => ?_, c.fD, c.nD, c.nf, _, upd_same, r⟩
  · rw [upd_ne (ne_of_none z c.fD)]; exact c.ext.fh b u z
  · rw [upd_ne (ne_of_none z c.nD)]; exact c.ext.hh b u z n
  · by_cases hb : b = D'
    · rw [hb, upd_same]; simp
    · rw [upd_ne hb]; exact c.ext.al b z
  · obtain ⟨g1, g2, g3, g4⟩ := c.fd φ q
    exact ⟨g1, g2, by rw [upd_ne (c.nf φ q)]; exact g3, g4⟩
theorem dn_run {it : Env' → M (List D)} {b : D → Option Asg} {c : Env' → M Bool} {kf vf : Env' → M D} {wi : TI} {vs ns : List Nat} (ki : IOk X fa Wσ wi it) (hin : ∀ n ∈ ns, n ∈ vs) (hni : ∀ n ∈ vs, n ∈ ns) :
    DNOk X fa Wσ (tDc wi (gStar X ns b) (tStarB X fa Wno c) (tStar X fa Wno kf) (tStar X fa Wno vf) vs) (dDc it b c kf vf) := by
  intro σ F H ρ s Q h1 h2 h3 hg
  refine ki σ F H ρ s _ h1 h2 h3 ?_
  change GoodDn X fa (Wσ σ) F H ((it ρ s).bnd _) Q at hg
  generalize it ρ s = r at hg
  cases r with
  | bad => exact hg
  | err e s' => exact hg
  | ok xs s0 =>
    intro J F1 H1 e1 o1 wj D' hD
    change GoodDn X fa (Wσ σ) F H (M.quiet (dcE b c kf vf xs ρ []) s0) Q at hg
    obtain ⟨ys, s9, hys, hg⟩ := quiet_ok (P := fun r => GoodDn X fa (Wσ σ) F H r Q) (fun z => z) hg
    obtain ⟨G0, Y, wk, hG, hY⟩ := wj.ex
    have nf : Nfa fa D' := fun φ q z => by
      obtain ⟨g1, g2, g3, g4⟩ := o1 φ q
      rw [z, hD] at g3
      cases g3
    have fD : F1 D' = none := Same.free e1.fh hD
    have C0 : DSt X fa F1 H1 D' F1 (upd H1 D' (.dK [])) [] s0 := ⟨(Ext.refl e1.fh).newH hD, o1.newH hD, fD, hD, nf, [], upd_same, .nil⟩
    refine walk_loop wk (fun i H' => ∃ F' acc s', DSt X fa F1 H1 D' F' H' acc s' ∧ dcE b c kf vf (xs.drop i) ρ acc s' = .ok ys s9) ?_ ⟨F1, [], s0, C0, hys⟩
      (Turn := fun i H x H' Nx => gStar X ns b x (L2.wipe σ vs) H' fun σ2 H2 => L2.wipe σ2 vs = L2.wipe σ vs ∧ tStarB X fa Wno c σ2 H2 fun b H3 =>
        if b = true then tStar X fa Wno kf σ2 H3 fun y H4 => tStar X fa Wno vf σ2 H4 fun z H5 => ∃ kvs k, y = kV k ∧ H5 D' = some (.dK kvs) ∧ kvs.length < sizeLine ∧ Nx (upd H5 D' (.dK (putK kvs k z))) else Nx H3) ?_ ?_
    · rintro i H' _ ⟨F', acc, s', C, _⟩
      exact hG F' H' C.ext.ff C.ext.fh
    · rintro i x H' H3 hi ⟨F', acc, s', C, hz⟩ y
      have hx : xs[i]? = some xs[i] := List.getElem?_eq_getElem hi
      obtain ⟨F3, a1, a2, a3, a4, r⟩ := hY i _ F' H' x H3 hx C.ext.ff C.ext.fh y
      have C3 := C.step (ext_same a1 a2 a3 a4) (C.fd.ext_same a1 a3 a4)
      rw [List.drop_eq_getElem_cons hi] at hz
      change ((M.lift (b xs[i]) s').bnd _) = _ at hz
      obtain ⟨as, s1, hb0, hz1⟩ := bnd_ok hz
      obtain ⟨hb, es1⟩ := lift_ok hb0
      rw [es1] at hz1
      change ((c (setE as ρ) s').bnd _) = _ at hz1
      obtain ⟨k, s2, hc, hz2⟩ := bnd_ok hz1
      have en := (h3.mono (e1.ff.trans (C.ext.ff.trans a1))).wipe vs
      refine ⟨fa, F3, xs[i], as, C3.ext.fh, r, hb, fun ws hw hn => ?_⟩
      have hwv : L2.wipe (setV ws (L2.wipe σ vs)) vs = L2.wipe σ vs := by
        rw [wipe_setV vs ws _ fun p hp => hin _ (by rw [← hn, ← hw.ix]; exact List.mem_map_of_mem hp), wipe_wipe σ vs vs fun _ h => h]
      have en2 : EnvOk X.K fa F3 (setV ws (L2.wipe σ vs)) (setE as ρ) := by
        have z := en.setE hw
        rw [setE_wipe as ρ vs fun n h => by rw [hn]; exact hni n h] at z
        exact z
      refine ⟨hwv, F3, setE as ρ, s', C3.ext.fh, C3.fd, en2, ?_⟩
      rw [hc]
      intro F4 H4 e4 o4
      have C4 := C3.step e4 o4
      cases k with
      | false =>
        rw [if_neg Bool.false_ne_true] at hz2
        exact iteF ⟨F4, acc, s2, C4, hz2⟩
      | true =>
        rw [if_pos rfl] at hz2
        change ((kf (setE as ρ) s2).bnd _) = _ at hz2
        obtain ⟨kk, s3, hkf, hz3⟩ := bnd_ok hz2
        change ((vf (setE as ρ) s3).bnd _) = _ at hz3
        obtain ⟨z, s4, hvf, hz4⟩ := bnd_ok hz3
        change ((M.lift (keyD kk) s4).bnd _) = _ at hz4
        obtain ⟨key, s5, hk0, hz5⟩ := bnd_ok hz4
        obtain ⟨hkey, es5⟩ := lift_ok hk0
        rw [es5] at hz5
        change ((if acc.length < sizeLine then dcE b c kf vf (xs.drop (i + 1)) ρ (putD acc key z) else M.bad) s4) = _ at hz5
        refine iteT ⟨F4, setE as ρ, s2, C4.ext.fh, C4.fd, en2.mono e4.ff, ?_⟩
        rw [hkf]
        intro wk' F5 H5 e5 o5 r5
        have C5 := C4.step e5 o5
        refine ⟨F5, setE as ρ, s3, C5.ext.fh, C5.fd, en2.mono (e4.ff.trans e5.ff), ?_⟩
        rw [hvf]
        intro wv F6 H6 e6 o6 r6
        have C6 := C5.step e6 o6
        obtain ⟨av, hD6, rl⟩ := id C6.at_
        by_cases hlen : acc.length < sizeLine
        · rw [if_pos hlen] at hz5
          refine ⟨av, key, key_rep hkey (r5.mono e6.ff), hD6, by rw [← rl.length]; exact hlen, F6, putD acc key z, s4, C6.put (putK_eq key r6 rl), hz5⟩
        · rw [if_neg hlen] at hz5
          cases hz5
    · rintro H' ⟨F', acc, s', C, hz⟩
      rw [List.drop_length] at hz
      cases hz
      obtain ⟨av, hD', rl⟩ := C.at_
      exact hg D' av F' H' (e1.trans C.ext) C.fd (none_of_ext e1 hD) C.fD hD' rl
/-- at a statement: owned -/
def vNewDc (f : Env' → M (List (Key × D))) : Sts → M (EV × Sts) := fun ρ => (f (mask ρ)).bind fun xs => M.pure (.od xs, ρ)
theorem vok_newDc {t : TE} {f : Env' → M (List (Key × D))} (h : DNOk X fa (fun _ => W) t f) : VOk X fa W t (vNewDc f) := by
  intro B F0 H0 F H A σ vs ρ evs s Q hl S hg
  refine h σ F H (mask ρ) s Q S.ext.fh S.fd (S.mask hl) ?_
  change GoodV X fa W B F0 H0 σ vs evs ((f (mask ρ) s).bnd _) Q at hg
  generalize f (mask ρ) s = r at hg
  cases r with
  | bad => exact hg
  | err e s' => exact fun cls dd F' H' e fo rx => hg cls dd F' H' (S.ext.trans e) fo rx
  | ok xs s' =>
    intro p vs' F' H' e fo hp fp hq r
    have S1 := S.step e fo
    have h0 : H0 p = none := by
      cases z : H0 p with
      | none => rfl
      | some u => exact absurd hp (S.ext.al p (by rw [z]; simp))
    refine hg (.ref p) F' H' _ (S1.pushO (ev := .od xs) (p := p) (fun i ev' hi ho q => ?_) ⟨rfl, fp, h0, fun φ z q => ?_, vs', hq, r⟩)
    · exact ((S.slot i ev' hi).own_at ho).2.2.2.2 (q ▸ hp)
    · obtain ⟨g1, g2, g3, g4⟩ := S.fd φ z
      rw [q, hp] at g3
      cases g3
/-- frozen at once -/
theorem DNOk.tok {t : TE} {f : Env' → M (List (Key × D))} (h : DNOk X fa Wσ t f) : TOk X fa Wσ t (fun ρ => (f ρ).bind fun xs => M.pure (.dic xs)) := by
  intro σ F H ρ s Q h1 h2 h3 hg
  refine h σ F H ρ s Q h1 h2 h3 ?_
  change Good X fa (Wσ σ) F H ((f ρ s).bnd _) Q at hg
  generalize f ρ s = r at hg
  cases r with
  | bad => exact hg
  | err e s' => exact hg
  | ok xs s' =>
    intro p vs F' H' e fo hp fp hq r
    have ff : Same F' (upd F' p (.dK vs)) := fun b u q => by
      rw [upd_ne (ne_of_none q fp)]; exact q
    refine hg (.ref p) (upd F' p (.dK vs)) H' ⟨e.ff.trans ff, fun b u q => ?_, e.hh, fun b q => ?_, e.al⟩ (fun φ q => ?_) (.dic (.inl upd_same) (r.mono ff))
    · by_cases hb : b = p
      · subst hb; rw [upd_same] at q; rw [hq]; exact q
      · rw [upd_ne hb] at q; exact e.fh b u q
    · have : b ≠ p := fun z => q (z ▸ hp)
      rw [upd_ne this]; exact e.fr b q
    · obtain ⟨g1, g2, g3, g4⟩ := fo φ q
      refine ⟨?_, g2, g3, ff _ _ g4⟩
      by_cases hb : φ.a = p
      · rw [hb, hq] at g3; cases g3
      · rw [upd_ne hb]; exact g1
section
variable {kx vx tg iter : Expr} {ifs : List Expr} {scope : Scope} {own : List (Str × Nat)} {pos spos py : Pos} {i : Nat} {y : Str} {it : Env' → M (List D)} {b : D → Option Asg} {c : Env' → M Bool} {kf vf : Env' → M D} {ns : List Nat}
theorem ed_dc (hc : X.calm = true) (hN : X.N.Nodup) (hi : IJ X fa Wσ tg iter it) (ok : BlkOk X.N X.env.scope scope own) (hin : ∀ n ∈ ns, n ∈ own.map (·.2)) (hni : ∀ n ∈ own.map (·.2), n ∈ ns)
    (hg : BlkD X scope fun Y => TJ Y tg ns b) (ht : BlkD X scope fun Y => PTsD Y fa Wno ifs c) (hk : BlkD X scope fun Y => ED Y fa Wno kx kf) (hv : BlkD X scope fun Y => ED Y fa Wno vx vf) (hs : ∀ x, foldedSetIterable iter X.env x = pure x := by intro _; rfl) :
    ED X fa Wσ (.DictComp kx vx [⟨tg, iter, ifs, 0⟩] scope pos) (fun ρ => (dDc it b c kf vf ρ).bind fun xs => M.pure (.dic xs)) := by
  obtain ⟨wi, pi, ki⟩ := hi
  exact ⟨_, pe_dc hc hN pi ok (fun s H C cl fp => (hg s H C cl fp).star) (tt := tStarB X fa Wno c) (fun s H C cl fp => (ht s H C cl fp).star) (fun s H C cl fp => (hk s H C cl fp).star) (fun s H C cl fp => (hv s H C cl fp).star) hs, (dn_run ki hin hni).tok⟩
theorem sw_dict {kx vx : Expr} {gs : List Comprehension} {l : Nat} {env : Env} (hk : env.scope.kind = .function) (hy : env.scope.names.lookup y = some .local) (hl : (py.line == pos.line) = true)
    (ha : (scope.names.any fun (n, k) => n == y && (k == .local || k == .cell)) = false) : swapsWith (.DictComp kx vx gs scope pos) (some (.Name y py)) l env = pure true := by
  have k1 : env.kindOf y = some .local := hy
  have k2 : env.blockKind = .function := by
    unfold Env.blockKind
    rw [hk]
    rfl
  unfold swapsWith
  simp only [k2, k1, ha, Expr.pos, hl]
  rfl
/-- x = {k: v for ..} -/
theorem sj_setDc (hc : X.calm = true) (hN : X.N.Nodup) (hi : IJ X fa (fun _ => W) tg iter it) (ok : BlkOk X.N X.env.scope scope own) (hin : ∀ n ∈ ns, n ∈ own.map (·.2)) (hni : ∀ n ∈ own.map (·.2), n ∈ ns)
    (hg : BlkD X scope fun Y => TJ Y tg ns b) (ht : BlkD X scope fun Y => PTsD Y fa Wno ifs c) (hk : BlkD X scope fun Y => ED Y fa Wno kx kf) (hv : BlkD X scope fun Y => ED Y fa Wno vx vf)
    (hy : X.N[i]? = some y := by rfl) (hyl : X.env.scope.names.lookup y = some .local := by rfl) (hsw : swapsWith (.DictComp kx vx [⟨tg, iter, ifs, 0⟩] scope pos) (some (.Name y py)) spos.line X.env = pure true := by exact sw_dict rfl rfl rfl (by decide +kernel)) (hs : ∀ x, foldedSetIterable iter X.env x = pure x := by intro _; rfl) :
    SJ X fa W (.Assign [.Name y py] (.DictComp kx vx [⟨tg, iter, ifs, 0⟩] scope pos) spos) (gSet i (vNewDc (dDc it b c kf vf))) := by
  obtain ⟨wi, pi, ki⟩ := hi
  refine sj_asg (te := tDc wi (gStar X ns b) (tStarB X fa Wno c) (tStar X fa Wno kf) (tStar X fa Wno vf) (own.map (·.2))) ⟨fun pins s σ H D I h => ?_⟩ (vok_newDc (dn_run ki hin hni))
  rw [exec_Assign_Name_used _ _ _ _ hsw]
  refine wpAny_bind (wpAny_standAt (wpAny_bind ?_))
  show wpAny _ X.A (do let _ ← comprehension (.DictComp kx vx [⟨tg, iter, ifs, 0⟩] scope pos) scope X.env (firstIterPos [⟨tg, iter, ifs, 0⟩] pos) newDict false (eval iter X.env) (some (assign (.Name y py) X.env))) _ _ s
  refine wpAny_bind (thn (dc_core (Qf := fun _ s' => SP X pins D .next s') (Q := fun x H1 => gName i x σ H1 D.nx) hc hN I pi ok (fun s H C cl fp => (hg s H C cl fp).star) (fun s H C cl fp => (ht s H C cl fp).star) (fun s H C cl fp => (hk s H C cl fp).star) (fun s H C cl fp => (hv s H C cl fp).star) hs h fun L C s' m H' I' q hn f => ?_) fun _ s' hq => wpAny_pure (wpAny_pure hq))
  show wpAny _ _ (assign (.Name y py) X.env (.ref L)) _ _ _
  refine wpAny_assign_Name (store_ok2 (v := V.ref L) I' hN hy (.inl hyl) rfl (fun s2 I2 hsb => ?_) (.inr hyl))
  obtain ⟨a, sb, ha⟩ := hsb
  obtain ⟨f0, f1, f2, f3, f4, f5⟩ := f
  have haC : C ≠ a := by
    rcases ha with z | z
    · rw [z]; exact f1
    · exact fun e => f4 y a z e.symm
  exact ⟨m, hn.sameBut sb haC, fun h3 sb3 => ⟨_, H', I2.turned (t' := s2.toks) (fun b o hb e => (sb3.2 b hb).trans e) f0 f1 f3 f4 f5, q⟩⟩
end

/-! ### tuples of what an owned thing tells -/
mutual
/-- built of plain values and tuples alone -/
def tupsB : D → Bool
  | .non => true
  | .bl _ => true
  | .int _ => true
  | .str _ => true
  | .tup xs => tupsL xs
  | _ => false
def tupsL : List D → Bool
  | [] => true
  | x :: xs => tupsB x && tupsL xs
end
mutual
theorem tups_rep {K : PySem.W.Frag} {F F' : Hp} (e : ∀ a xs, SqT K F a xs → SqT K F' a xs) : ∀ {d : D} {v : V}, Rep K fa F d v → tupsB d = true → Rep K fa F' d v
  | _, _, .non, _ => .non
  | _, _, .bl b, _ => .bl b
  | _, _, .int i, _ => .int i
  | _, _, .str x, _ => .str x
  | _, _, .tup h r, q => .tup (e _ _ h) (tups_repL e r q)
  | _, _, .feed _ _, q => by cases q
  | _, _, .opq _, q => by cases q
  | _, _, .scr _, q => by cases q
  | _, _, .lst _ _, q => by cases q
  | _, _, .dic _ _, q => by cases q
  | _, _, .ins _ _ _, q => by cases q
theorem tups_repL {K : PySem.W.Frag} {F F' : Hp} (e : ∀ a xs, SqT K F a xs → SqT K F' a xs) : ∀ {ds : List D} {vs : List V}, RepL K fa F ds vs → tupsL ds = true → RepL K fa F' ds vs
  | _, _, .nil, _ => .nil
  | _, _, .cons (d := d) (ds := ds) r t, q => by
    have q' : (tupsB d && tupsL ds) = true := q
    rw [Bool.and_eq_true] at q'
    exact .cons (tups_rep e r q'.1) (tups_repL e t q'.2)
end
def vViewT (f : Env' → M D) : Sts → M (EV × Sts) := fun ρ => (f (view ρ)).bind fun x => if tupsB x = true then M.pure (.d x, ρ) else M.bad
open Classical in
theorem vok_viewT {t : TE} {f : Env' → M D} (h : TOk X fa (fun _ => W) t f) : VOk X fa W t (vViewT f) := by
  intro B F0 H0 F H A σ vs ρ evs s Q hl S hg
  obtain ⟨ff, fh, fo0, ex0⟩ := S.fp
  refine h σ (Fp F H A (ρ ++ evs)) H (view ρ) s Q fh fo0 (S.view hl) ?_
  change GoodV X fa W B F0 H0 σ vs evs ((f (view ρ) s).bnd _) Q at hg
  generalize f (view ρ) s = r at hg
  cases r with
  | bad => exact hg
  | err e s' => exact fun cls dd F' H' e fo rx => hg cls dd F' H' (ex0.trans e) fo rx
  | ok x s' =>
    intro v F' H' e fo r
    change GoodV X fa W B F0 H0 σ vs evs ((if tupsB x = true then M.pure (EV.d x, ρ) else M.bad) s') Q at hg
    by_cases q : tupsB x = true
    · rw [if_pos q] at hg
      -- what is new and not owned
      have e2 : Ext fa F H (fun b => if H b = none then F' b else F b) H' := by
        refine ⟨fun b u z => ?_, fun b u z => ?_, e.hh, fun b z => ?_, e.al⟩
        · have : H b ≠ none := by rw [S.ext.fh b u z]; simp
          show (if H b = none then F' b else F b) = some u
          rw [if_neg this]; exact z
        · by_cases hb : H b = none
          · have z1 : (if H b = none then F' b else F b) = some u := z
            rw [if_pos hb] at z1
            exact e.fh b u z1
          · have z' : (if H b = none then F' b else F b) = some u := z
            rw [if_neg hb] at z'
            exact e.fh b u (e.ff b u (ff b u z'))
        · show (if H b = none then F' b else F b) = F b
          rw [if_neg z]
      have fo2 : FeedOk X.K fa (fun b => if H b = none then F' b else F b) H' s' := fun φ z => by
        obtain ⟨h1, h2, h3, h4⟩ := S.fd φ z
        obtain ⟨g1, g2, g3, g4⟩ := fo φ z
        exact ⟨by show (if H φ.a = none then F' φ.a else F φ.a) = none; rw [if_neg (by rw [h3]; simp)]; exact h1, g2, g3, e2.ff _ _ h4⟩
      have S2 := S.step e2 fo2
      refine hg v _ H' A (S2.push (tups_rep (fun a xs hs => ?_) r q))
      rcases hs with hs | hs
      · refine .inl ?_
        have key : ∀ u, F' a = some u → (∀ w, u ≠ .lst w) → (∀ w, u ≠ .dK w) → (∀ C d w, u ≠ .ins C d w) → (if H a = none then F' a else F a) = some u := fun u hu n1 n2 n3 => by
          by_cases hb : H a = none
          · rw [if_pos hb]; exact hu
          · rw [if_neg hb]
            have z := e.fr a hb
            rw [hu] at z
            by_cases own : ∃ i ev, (ρ ++ evs)[i]? = some ev ∧ ev.own = true ∧ A i = a
            · obtain ⟨i, ev, hi, ho, rfl⟩ := own
              rw [Fp_own hi ho] at z
              have sl := S.slot i ev hi
              cases ev with
              | ol xs => obtain ⟨_, _, _, _, w, g, _⟩ := sl; rw [g] at z; exact absurd (Option.some.inj z) (n1 _)
              | od xs => obtain ⟨_, _, _, _, w, g, _⟩ := sl; rw [g] at z; exact absurd (Option.some.inj z) (n2 _)
              | oi y c xs => obtain ⟨_, _, _, _, _, C, dx, w, g, _⟩ := sl; rw [g] at z; exact absurd (Option.some.inj z) (n3 _ _ _)
              | _ => cases ho
            · rw [Fp_not own] at z
              exact z.symm
        rcases hs with hs | ⟨o, hs⟩
        · exact .inl (key _ hs (by intro w z; cases z) (by intro w z; cases z) (by intro C d w z; cases z))
        · exact .inr ⟨o, key _ hs (by intro w z; cases z) (by intro w z; cases z) (by intro C d w z; cases z)⟩
      · exact .inr hs
    · rw [if_neg q] at hg
      exact hg.elim
theorem vj_viewT {e : Expr} {f : Env' → M D} (h : ED X fa (fun _ => W) e f) : VJ X fa W e (vViewT f) := by
  obtain ⟨t, p, k⟩ := h
  exact ⟨t, p, vok_viewT k⟩
end
end DL

set_option Elab.async false
set_option linter.all false
set_option maxRecDepth 100000
set_option maxHeartbeats 2000000
/-! The data layer: the module's tables asked; class constants; list(range); join; list * int; calls with defaults. -/
namespace DL
open PySem PySem.Spec PyProof.Rows L2
section
variable {X : Cx} {fa : Option FA} {W : L2.St → XK} {a b c e o : Expr} {es rest : List Expr} {pos p apos cpos bpos : Pos} {f1 f2 f3 : Env' → M D} {fl fk : Env' → M (List D)} {k : Nat} {kws : List Keyword}
/-! ### TABLE.get(k, d), TABLE[k], k in TABLE -/
def tabGet (tab : List (Str × Int)) : D → D → Option D
  | .str k, z => some (match tab.lookup k with
    | some i => .int i
    | none => z)
  | _, _ => none
theorem ed_ktget2 {x : Str} {tab : List (Str × Int)} (C : KTab X.K X.w X.mg x tab) (ha : ED X fa W a f2) (hb : ED X fa W b f3) (hg : Gl X x := by rfl) (hd : (x == ("__debug__" : Str)) = false := by decide)
    (base : attributeBase (.Name x p) "get" X.env (eval (.Name x p) X.env) = eval (.Name x p) X.env := by rfl)
    (few : ((backTo cpos (starEach [a, b] X.env)).all (fun x => !x.1) && (backToKw cpos (keywordEach [] X.env)).all (fun x => x.1.isSome) && decide (([a, b] : List Expr).length + ([] : List Keyword).length + (if ([] : List Keyword).isEmpty then 0 else 1) < 30)) = true := by rfl)
    (line : (apos.endLine == cpos.line) = true := by rfl) (trees : backTo cpos (starEach [a, b] X.env) = [(false, eval a X.env), (false, eval b X.env)] := by rfl) :
    ED X fa W (.Call (.Attribute (.Name x p) "get" apos) [a, b] [] cpos) (dOp (tabGet tab) f2 f3) := by
  obtain ⟨d, es, n, hm, D, ht⟩ := C.ex
  obtain ⟨ta, pa, ka⟩ := ha
  obtain ⟨tb, pb, kb⟩ := hb
  refine ⟨fun σ H Q => ta σ H fun y H1 => tb σ H1 fun z H2 => ∃ k, y = .str k ∧ Q (match tab.lookup k with
    | some i => .int i
    | none => z) H2, ⟨fun pins s σ H Q I h => ?_⟩, fun σ F H ρ s Q h1 h2 h3 h => ?_⟩
  · refine wpAny_Call_method base few line PySem.F.plainAttrs_dict PySem.F.slot_dict_get PySem.F.type_dict_get (thn ((pe_glob (v := .ref d) hg hm rfl hd).run pins s σ H (fun y H1 => y = .ref d ∧ ta σ H1 fun y H1 => tb σ H1 fun z H2 => ∃ k, y = .str k ∧ Q (match tab.lookup k with
      | some i => .int i
      | none => z) H2) I ⟨rfl, h⟩) fun u s1 ⟨y, H1, I1, rx, ey, q1⟩ => ?_)
    subst ey
    obtain rfl : u = Value.ref d := rx
    refine ⟨kd_type D I1, fun b q => ?_, ?_⟩
    · cases q
      exact ⟨_, I1.kIn _ _ D.at_, rfl⟩
    · rw [trees]
      refine Calls.callWith_builtin rfl (Calls.evalArgs_plain (Calls.spliced_cons (thn (pa.run pins s1 σ H1 _ I1 q1) fun iv s2 ⟨y, H2, I2, ry, q2⟩ =>
        Calls.spliced_cons (thn (pb.run pins s2 σ H2 _ I2 q2) fun fv s3 ⟨z, H3, I3, rz, k, ey, q3⟩ => Calls.spliced_nil ?_))))
      subst ey
      obtain ⟨t, rfl⟩ := ry
      have m := PySem.W.mapOf_K (prog := X.prog) (w := X.w) I3.kIn D.at_ D.lit
      refine call_meetsIn PySem.F.slot_dict_get (kd_type D I3) PySem.F.entry_dict_get (PySem.F.args_dict_get_3 _ _ _) (meets_dict_get_default (strKind X.prog X.w) d (PySem.strKind_is X.prog X.w k t) D.low fv) ⟨_, m, ?_⟩
      have nz := ktab_ns D ht k
      cases q : tab.lookup k with
      | none =>
        rw [q] at nz q3
        show EP X pins σ Q ((findBy Value.isStrOf es k).getD fv) _
        rw [PySem.W.find_K D.at_ nz]
        exact ⟨z, H3, I3.tok _, rz, q3⟩
      | some i =>
        rw [q] at nz q3
        obtain ⟨t', nz⟩ := nz
        show EP X pins σ Q ((findBy Value.isStrOf es k).getD fv) _
        rw [PySem.W.find_K D.at_ nz]
        exact ⟨.int i, H3, I3.tok _, ⟨t', rfl⟩, q3⟩
  · refine ka.then Good.tgt h1 h2 h3 h fun kd s2 w F2 H2 e2 o2 r2 v2 h'' => ?_
    refine kb.then Good.tgt e2.fh o2 v2 h'' fun z s3 u F3 H3 e3 o3 r3 v3 h4 => ?_
    have h5 := Good.lift h4
    cases r2 with
    | str k =>
      refine ⟨k, rfl, ?_⟩
      change GoodO X fa F3 H3 s3 (some (match tab.lookup k with
        | some i => .int i
        | none => z)) Q at h5
      cases q : tab.lookup k with
      | none => rw [q] at h5; exact GoodO.here e3.fh o3 r3 h5
      | some i => rw [q] at h5; exact GoodO.here e3.fh o3 (.int i) h5
    | _ => exact h5.elim
/-! ### C.NAME -/
/-- the module's class x has the constant f -/
def ClsCon (K : PySem.W.Frag) (mg : Str → Option Value) (x f : Str) (d : D) : Prop := ∃ C mc v u, mg x = some (.ref C) ∧ ClX.CRead K C mc ∧ ClX.CVal K C mc f v u ∧ ∀ fa F, Rep K fa F d v
theorem ed_clscon {x f : Str} {d : D} (h : ClsCon X.K X.mg x f d) (hg : Gl X x := by rfl) (hd : (x == ("__debug__" : Str)) = false := by decide) (hb : attributeBase (.Name x p) f X.env (eval (.Name x p) X.env) = eval (.Name x p) X.env := by rfl) : ED X fa W (.Attribute (.Name x p) f pos) (dC d) := by
  obtain ⟨C, mc, v, u, hm, r, cv, hr⟩ := h
  exact ⟨_, ClX.pe_cval (pe_glob (v := .ref C) hg hm rfl hd) hb, fun σ F H ρ s Q h1 h2 h3 h => ⟨C, mc, v, u, rfl, r, cv, Good.here h1 h2 (hr fa F) h⟩⟩

/-! ### list(range(..)) -/
instance {a b : Int} : Decidable (RgOk a b) := by unfold RgOk; infer_instance
def rgD (a b : Int) : Option D := if RgOk a b then some (.lst ((List.range (b - a).toNat).map fun i => D.int (a + (i : Nat)))) else none
theorem rgD_rep {K : PySem.W.Frag} {F : Hp} (a : Int) : ∀ l : List Nat, RepL K fa F (l.map fun i => D.int (a + (i : Nat))) (l.map fun i => V.int (a + (i : Nat)))
  | [] => .nil
  | i :: r => .cons (.int _) (rgD_rep a r)
def rgD1 : D → Option D
  | .int j => rgD 0 j
  | _ => none
def rgD2 : D → D → Option D
  | .int i, .int j => rgD i j
  | _, _ => none
theorem goodO_rg {F H : Hp} {s : FS} {a b : Int} {Q : VK} (h1 : Same F H) (h2 : FeedOk X.K fa F H s) (h : GoodO X fa F H s (rgD a b) Q) : RgOk a b ∧ ∀ q, H q = none → Q (.ref q) (upd H q (.lst (rgV a b))) := by
  unfold rgD at h
  by_cases hr : RgOk a b
  · rw [if_pos hr] at h
    exact ⟨hr, fun q hq => GoodO.new h1 h2 hq (.lst upd_same (rgD_rep a _)) h⟩
  · rw [if_neg hr] at h
    exact h.elim
theorem ed_listRg1 (hc : X.calm = true) (hm : X.mg "list" = none) (hm2 : X.mg "range" = none) (ha : ED X fa W a f1) (hg : Gl X "list" := by rfl) (hg2 : Gl X "range" := by rfl) (na : starEach [a] X.env = (false, eval a X.env) :: starEach [] X.env := by rfl)
    (nb : starEach [.Call (.Name "range" p) [a] [] pos] X.env = (false, eval (.Call (.Name "range" p) [a] [] pos) X.env) :: starEach [] X.env := by rfl) : ED X fa W (.Call (.Name "list" bpos) [.Call (.Name "range" p) [a] [] pos] [] cpos) (dUn rgD1 f1) := by
  obtain ⟨ta, pa, ka⟩ := ha
  refine ⟨_, pe_listRg hc hg hm (prg_1 hg2 hm2 pa na) nb, fun σ F H ρ s Q h1 h2 h3 h => ?_⟩
  refine ka.then Good.tgt h1 h2 h3 h fun x s1 v F1 H1 e1 o1 r1 v1 h' => ?_
  have h' := Good.lift h'
  cases r1 with
  | int j => exact ⟨j, rfl, goodO_rg e1.fh o1 h'⟩
  | _ => exact h'.elim
theorem ed_listRg2 (hc : X.calm = true) (hm : X.mg "list" = none) (hm2 : X.mg "range" = none) (ha : ED X fa W a f1) (hb : ED X fa W b f2) (hg : Gl X "list" := by rfl) (hg2 : Gl X "range" := by rfl) (na : starEach [a, b] X.env = (false, eval a X.env) :: starEach [b] X.env := by rfl)
    (nb : starEach [b] X.env = (false, eval b X.env) :: starEach [] X.env := by rfl) (hp : (backTo pos (starEach [b] X.env)).any (·.1) = false := by rfl)
    (nc : starEach [.Call (.Name "range" p) [a, b] [] pos] X.env = (false, eval (.Call (.Name "range" p) [a, b] [] pos) X.env) :: starEach [] X.env := by rfl) : ED X fa W (.Call (.Name "list" bpos) [.Call (.Name "range" p) [a, b] [] pos] [] cpos) (dOp rgD2 f1 f2) := by
  obtain ⟨ta, pa, ka⟩ := ha
  obtain ⟨tb, pb, kb⟩ := hb
  refine ⟨_, pe_listRg hc hg hm (prg_2 hg2 hm2 pa pb na nb hp) nc, fun σ F H ρ s Q h1 h2 h3 h => ?_⟩
  refine ka.then Good.tgt h1 h2 h3 h fun x s1 v F1 H1 e1 o1 r1 v1 h' => ?_
  refine kb.then Good.tgt e1.fh o1 v1 h' fun y s2 w F2 H2 e2 o2 r2 v2 h'' => ?_
  have h'' := Good.lift h''
  cases r1 with
  | int i =>
    cases r2 with
    | int j => exact ⟨i, j, rfl, rfl, goodO_rg e2.fh o2 h''⟩
    | _ => exact h''.elim
  | _ => cases r2 <;> exact h''.elim

/-! ### sep.join(xs) -/
def joinD : D → List D → Option D
  | .str a, [.lst xs] => (strsD xs).bind fun ys => if (ys.map (·.length)).sum + ys.length * a.length ≤ 16777216 then some (.str (Txt.join a ys)) else none
  | .str a, [.tup xs] => (strsD xs).bind fun ys => if (ys.map (·.length)).sum + ys.length * a.length ≤ 16777216 then some (.str (Txt.join a ys)) else none
  | _, _ => none
theorem ok_join : MtOk X fa (fun x xs H Q => ∃ a p, ∃ ys : List Str, x = .str a ∧ xs = [.ref p] ∧ (SqL X.K H p (ys.map V.str) ∨ SqT X.K H p (ys.map V.str)) ∧ (ys.map (·.length)).sum + ys.length * a.length ≤ 16777216 ∧ Q (.str (Txt.join a ys)) H) joinD := by
  intro F H s x xs d as Q h1 h2 r rl h
  cases r with
  | str a =>
    cases rl with
    | nil => exact h.elim
    | cons r0 t0 =>
      cases t0 with
      | cons _ _ => cases r0 <;> exact h.elim
      | nil =>
        cases r0 with
        | @lst p ds vs hq rr =>
          change GoodO X fa F H s ((strsD ds).bind _) Q at h
          cases q : strsD ds with
          | none => rw [q] at h; exact h.elim
          | some ys =>
            rw [q] at h
            have e := strsD_rep q rr
            subst e
            change GoodO X fa F H s (if (ys.map (·.length)).sum + ys.length * a.length ≤ 16777216 then some (.str (Txt.join a ys)) else none) Q at h
            by_cases hl : (ys.map (·.length)).sum + ys.length * a.length ≤ 16777216
            · rw [if_pos hl] at h
              exact ⟨a, p, ys, rfl, rfl, .inl (SqL.of (h1 _ _ hq)), hl, GoodO.here h1 h2 (.str _) h⟩
            · rw [if_neg hl] at h
              exact h.elim
        | @tup p ds vs hq rr =>
          change GoodO X fa F H s ((strsD ds).bind _) Q at h
          cases q : strsD ds with
          | none => rw [q] at h; exact h.elim
          | some ys =>
            rw [q] at h
            have e := strsD_rep q rr
            subst e
            change GoodO X fa F H s (if (ys.map (·.length)).sum + ys.length * a.length ≤ 16777216 then some (.str (Txt.join a ys)) else none) Q at h
            by_cases hl : (ys.map (·.length)).sum + ys.length * a.length ≤ 16777216
            · rw [if_pos hl] at h
              exact ⟨a, p, ys, rfl, rfl, .inr (same_seqT h1 hq), hl, GoodO.here h1 h2 (.str _) h⟩
            · rw [if_neg hl] at h
              exact h.elim
        | _ => exact h.elim
  | _ => cases rl <;> exact h.elim
theorem tyV_str : ∀ F H d v, Same F H → Rep X.K fa F d v → tyD d = some "str" → tyV X.K "str" v H := by
  intro F H d v h1 r h
  cases r with
  | str x => exact (show ("str" : String) = "str" from rfl)
  | _ => first | (cases h; done) | (injection h with h; exact absurd h (by decide))
theorem ht_join : ∀ d as, joinD d as ≠ none → tyD d = some "str" := by
  intro d as h
  cases d with
  | str a => rfl
  | _ => exact absurd rfl h
end
end DL

set_option Elab.async false
set_option linter.all false
set_option maxRecDepth 100000
set_option maxHeartbeats 2000000
/-! The data layer: list(dict); list * int. -/
namespace DL
open PySem PySem.Spec PyProof.Rows L2
section
variable {X : Cx} {fa : Option FA} {W : L2.St → XK}
def rListDR : List V → Hp → VK → Prop := fun xs H Q => ∃ p kvs, xs = [.ref p] ∧ Rd H p (.dK kvs) ∧ ∀ q, H q = none → Q (.ref q) (upd H q (.lst (kvs.map fun kv => kV kv.1)))
theorem call_list_dKR (hc : X.calm = true) : CallR X (.type "list") rListDR := by
  intro pins s σ H xs us Q I r h
  obtain ⟨p, kvs, rfl, hk, q⟩ := h
  rw [Vals.ref1 r]
  obtain ⟨z, lo, vs, rk, hd⟩ := (show ObjOk X.prog X.w H s.heap p (.dK kvs) from hk.ok I.hok)
  obtain ⟨ep, hat⟩ := hd.dictAt
  have hl : kvs.length = vs.length := Paired.length rk
  refine PySem.W.kdl_call (PySem.W.kdl_dict (knd := mixKind X.prog X.w) (kvs := vs) (ep := ep) lo) (I.ok.hd hc) hat (by rw [← hl]; exact z) fun h' tk acc' c' hkeep hS hacc => ?_
  have rel : Vals (kvs.map fun kv => kV kv.1) acc'.toList := by
    have el : acc'.toList.length = acc'.size := by simp
    refine vals_of_at (by rw [List.length_map, el, hacc.1, hl]) fun j x w h1 h2 => ?_
    obtain ⟨k, y, hky, hi⟩ := hacc.2 j w (by rw [← Array.getElem?_toList]; exact h2)
    have e1 : (kvs.map (·.1))[j]? = some k := by
      rw [KV.keys rk, List.getElem?_map, hky]; rfl
    rw [List.getElem?_map] at h1
    rw [List.getElem?_map] at e1
    cases e4 : kvs[j]? with
    | none => rw [e4] at e1; cases e1
    | some kv =>
      rw [e4] at e1 h1
      cases e1
      cases h1
      exact keyIs_rel hi
  exact ⟨.ref s.heap.objs.size, upd H s.heap.objs.size (.lst (kvs.map fun kv => kV kv.1)), I.laid hkeep (Nat.le_refl _) (show ObjOk X.prog X.w _ _ _ (.lst (kvs.map fun kv => kV kv.1)) from ⟨by rw [List.length_map]; exact z, acc'.toList, c', rel, by rw [Array.toArray_toList]; exact hS⟩), rfl, q _ (I.hok.fresh (Nat.le_refl _))⟩
def listDK : List D → Option D
  | [.dic xs] => some (.lst (xs.map fun kv => keyV kv.1))
  | _ => none
theorem repK_keys {K : PySem.W.Frag} {F F' : Hp} : ∀ {xs : List (Key × D)} {vs : List (Key × V)}, RepK K fa F xs vs → RepL K fa F' (xs.map fun kv => keyV kv.1) (vs.map fun kv => kV kv.1)
  | _, _, .nil => .nil
  | _, _, .cons (k := k) _ t => .cons (by cases k with
    | inl n => exact .int n
    | inr x => exact .str x) (repK_keys t)
theorem ok_listDK : CallOk X fa rListDR listDK := by
  intro F H s xs as Q h1 h2 r h
  cases r with
  | nil => exact h.elim
  | cons r t =>
    cases t with
    | cons _ _ => cases r <;> exact h.elim
    | nil =>
      cases r with
      | dic hq r => exact ⟨_, _, rfl, same_rd h1 hq, fun p hp => GoodO.new h1 h2 hp (.lst upd_same (repK_keys r)) h⟩
      | _ => exact h.elim
def mulLD : D → D → Option D
  | .lst xs, .int k => if -(2 ^ 63) ≤ k ∧ k < 2 ^ 63 ∧ xs.length * k.toNat ≤ sizeLine then some (.lst (List.replicate k.toNat xs).flatten) else none
  | _, _ => none
theorem repL_rep {K : PySem.W.Frag} {F : Hp} {xs : List D} {vs : List V} (r : RepL K fa F xs vs) : ∀ n : Nat, RepL K fa F (List.replicate n xs).flatten (List.replicate n vs).flatten
  | 0 => .nil
  | n + 1 => by
    rw [List.replicate_succ, List.replicate_succ, List.flatten_cons, List.flatten_cons]
    exact r.append (repL_rep r n)
theorem ok_mulL : OpOk X fa rRep mulLD := by
  intro F H s x y a b Q h1 h2 ra rb h
  cases ra with
  | @lst p xs vs hq r =>
    cases rb with
    | int k =>
      by_cases hk : -(2 ^ 63) ≤ k ∧ k < 2 ^ 63 ∧ xs.length * k.toNat ≤ sizeLine
      · rw [show mulLD (.lst xs) (.int k) = some (.lst (List.replicate k.toNat xs).flatten) from if_pos hk] at h
        exact ⟨p, k, vs, rfl, rfl, h1 _ _ hq, hk.1, hk.2.1, by rw [← r.length]; exact hk.2.2, fun q hn => GoodO.new h1 h2 hn (.lst upd_same ((repL_rep r _).mono (Ext.new (fa := fa) h1 hn).ff)) h⟩
      · rw [show mulLD (.lst xs) (.int k) = none from if_neg hk] at h
        exact h.elim
    | _ => exact h.elim
  | _ => cases rb <;> exact h.elim
/-- y = [elt for k in d if ..], d a name of a dict -/
theorem sj_setLcKeys {Wc : XK} {tg elt : Expr} {ifs : List Expr} {scope : Scope} {own : List (Str × Nat)} {pos vp spos py : Pos} {x y : Str} {i j : Nat} {b : D → Option Asg} {c : Env' → M Bool} {f : Env' → M D} {ns : List Nat} (hc : X.calm = true) (hN : X.N.Nodup) (hi : PE X (.Name x vp) (tVar i)) (ok : BlkOk X.N X.env.scope scope own)
    (hin : ∀ n ∈ ns, n ∈ own.map (·.2)) (hni : ∀ n ∈ own.map (·.2), n ∈ ns)
    (hg : BlkD X scope fun Y => TJ Y tg ns b) (ht : BlkD X scope fun Y => PTsD Y fa Wno ifs c) (he : BlkD X scope fun Y => ED Y fa Wno elt f)
    (hy : X.N[j]? = some y := by rfl) (hyl : X.env.scope.names.lookup y = some .local := by rfl) (hsw : swapsWith (.ListComp elt [⟨tg, .Name x vp, ifs, 0⟩] scope pos) (some (.Name y py)) spos.line X.env = pure true := by exact sw_true rfl rfl rfl (by decide +kernel)) (hs : ∀ y, foldedSetIterable (.Name x vp) X.env y = pure y := by intro _; rfl) :
    SJ X fa Wc (.Assign [.Name y py] (.ListComp elt [⟨tg, .Name x vp, ifs, 0⟩] scope pos) spos) (gSet j (vNew (dLc (keysD i) b c f))) := by
  have p : PS X (.Assign [.Name y py] (.ListComp elt [⟨tg, .Name x vp, ifs, 0⟩] scope pos) spos) (tAsg (tLc (iKeys (tVar i)) (gStar X ns b) (tStarB X fa Wno c) (tStar X fa Wno f) (own.map (·.2))) (gName j)) :=
    ps_setLc hc hN hy hyl hsw (pi_keys hi) ok (fun s H C cl fp => (hg s H C cl fp).star) (tt := tStarB X fa Wno c) (fun s H C cl fp => (ht s H C cl fp).star) (fun s H C cl fp => (he s H C cl fp).star) hs
  exact sj_asg (te := fun σ H Q => tLc (iKeys (tVar i)) (gStar X ns b) (tStarB X fa Wno c) (tStar X fa Wno f) (own.map fun q : Str × Nat => q.2) σ H Q ∨ tLockE (tLc (iKeys (tVar i)) (gStar X ns b) (tStarB X fa Wno c) (tStar X fa Wno f) (own.map fun q : Str × Nat => q.2)) σ H Q)
    ⟨fun pins s σ H D I h => h.elim (p.run pins s σ H D I) ((ps_lock p).run pins s σ H D I)⟩
    (vok_new (nok_lock (nok_lcP (tg := tg) (iter := .Name x vp) (elt := elt) iok_keys hin hni) (keys_bad i b c f) (lc_quiet (keys_calm i))))
end
end DL

set_option Elab.async false
set_option linter.all false
set_option maxRecDepth 100000
set_option maxHeartbeats 2000000
/-! The data layer: owned dict comprehensions as values; the making of instances from what the top has laid; lists of facts. -/
namespace DL
open PySem PySem.Spec PyProof.Rows L2
section
variable {X : Cx} {fa : Option FA} {W : XK} {kx vx tg iter : Expr} {ifs : List Expr} {scope : Scope} {own : List (Str × Nat)} {pos : Pos} {it : Env' → M (List D)} {b : D → Option Asg} {c : Env' → M Bool} {kf vf : Env' → M D} {ns : List Nat}
theorem vj_dc (hc : X.calm = true) (hN : X.N.Nodup) (hi : IJ X fa (fun _ => W) tg iter it) (ok : BlkOk X.N X.env.scope scope own) (hin : ∀ n ∈ ns, n ∈ own.map (·.2)) (hni : ∀ n ∈ own.map (·.2), n ∈ ns)
    (hg : BlkD X scope fun Y => TJ Y tg ns b) (ht : BlkD X scope fun Y => PTsD Y fa Wno ifs c) (hk : BlkD X scope fun Y => ED Y fa Wno kx kf) (hv : BlkD X scope fun Y => ED Y fa Wno vx vf) (hs : ∀ x, foldedSetIterable iter X.env x = pure x := by intro _; rfl) :
    VJ X fa W (.DictComp kx vx [⟨tg, iter, ifs, 0⟩] scope pos) (vNewDc (dDc it b c kf vf)) := by
  obtain ⟨wi, pi, ki⟩ := hi
  exact ⟨_, pe_dc hc hN pi ok (fun s H C cl fp => (hg s H C cl fp).star) (tt := tStarB X fa Wno c) (fun s H C cl fp => (ht s H C cl fp).star) (fun s H C cl fp => (hk s H C cl fp).star) (fun s H C cl fp => (hv s H C cl fp).star) hs, vok_newDc (dn_run ki hin hni)⟩
end
theorem all_nil {α : Type} {p : α → Prop} : ∀ q ∈ ([] : List α), p q := fun q h => by cases h
theorem all_cons {α : Type} {p : α → Prop} {a : α} {l : List α} (h : p a) (t : ∀ q ∈ l, p q) : ∀ q ∈ a :: l, p q := fun q h' => by
  rcases List.mem_cons.mp h' with rfl | h'
  · exact h
  · exact t q h'
section
variable {P : Program} {w : World} {K : PySem.W.Frag} {mg : Str → Option Value} {base : Heap} {k n : Nat} {cls qual : Str} {params : Arguments} {body : List Stmt} {scope : Scope} {f C : Addr} {fd : FuncData} {ps ks : List Str} {g : Addr → List D → M (List (Str × D))} {dvs : List V} {kws : List (Str × V)} {h : Heap}
/-- every parameter is written; there are defaults and keyword-only parameters -/
theorem mal_full (X : K.In h) (G : h.Ns mainGlobals mg) (hn : PySem.W.nsIn K mainGlobals cls = some (some (.ref C))) (mk : Mk K C f) (Fn : FnOk P w K mg base (L2.CX P w) k f fd ps (DSpI K mg cls g)) (F : FunD K "__init__" qual params body scope dvs kws f fd)
    (hd : dvs ≠ []) (hk : kws ≠ [])
    (hb : ∀ (T D : Addr) (doc pm : Value) (an : Option Addr) (cdv ct : Value) (us its mv ws : List Value), us.length = n + 1 → its.length = dvs.length → mv.length = ([] : List (Str × V)).length → ws.length = ks.length →
      ∃ k, bindArgs (PySem.W.fnOf "__init__" qual params body scope (.ref T) (.ref D) doc pm an cdv ct) ⟨us, ks.zip ws⟩ = seqItems? (.ref T) >>= k ∧ KwChain D ((([] : List (Str × V)).map (·.1)).zip mv) (k (some its.toArray)) (ps.zip (us ++ ws))) :
    Mal P w K mg base k cls n ks (fun us ws => us ++ ws) g := by
  obtain ⟨its, mv, B⟩ := F.kbinds (n + 1) ks [] (fun {α} us _ _ ws => us ++ ws) hd hk (fun q hq => by cases hq) (fun r1 _ _ r4 => r1.append r4) hb
  exact ⟨C, f, fd, ps, _, _, hn, PySem.W.mg_of X G hn, mk, Fn, B, fun fa F x vs zs ds es _ _ r1 r2 => ⟨vs ++ zs, rfl, r1.append r2⟩⟩
/-- .. there are defaults only -/
theorem mal_fullD (X : K.In h) (G : h.Ns mainGlobals mg) (hn : PySem.W.nsIn K mainGlobals cls = some (some (.ref C))) (mk : Mk K C f) (Fn : FnOk P w K mg base (L2.CX P w) k f fd ps (DSpI K mg cls g)) (F : FunD K "__init__" qual params body scope dvs kws f fd)
    (hd : dvs ≠ [])
    (hb : ∀ (T : Addr) (kV doc pm : Value) (an : Option Addr) (cdv ct : Value) (us its ws : List Value), us.length = n + 1 → its.length = dvs.length → ws.length = ks.length →
      ∃ k, bindArgs (PySem.W.fnOf "__init__" qual params body scope (.ref T) kV doc pm an cdv ct) ⟨us, ks.zip ws⟩ = seqItems? (.ref T) >>= k ∧ k (some its.toArray) = pure (ps.zip (us ++ ws))) :
    Mal P w K mg base k cls n ks (fun us ws => us ++ ws) g := by
  obtain ⟨its, B⟩ := F.kbindsD (n + 1) ks (fun {α} us _ ws => us ++ ws) hd (fun r1 _ r4 => r1.append r4) hb
  exact ⟨C, f, fd, ps, _, _, hn, PySem.W.mg_of X G hn, mk, Fn, B, fun fa F x vs zs ds es _ _ r1 r2 => ⟨vs ++ zs, rfl, r1.append r2⟩⟩
/-- .. there are neither -/
theorem mal_full0 (X : K.In h) (G : h.Ns mainGlobals mg) (hn : PySem.W.nsIn K mainGlobals cls = some (some (.ref C))) (mk : Mk K C f) (Fn : FnOk P w K mg base (L2.CX P w) k f fd ps (DSpI K mg cls g)) (F : FunD K "__init__" qual params body scope [] [] f fd)
    (hb : ∀ (kV doc pm : Value) (an : Option Addr) (cdv ct : Value) (us ws : List Value), us.length = n + 1 → ws.length = ks.length →
      bindArgs (PySem.W.fnOf "__init__" qual params body scope .none kV doc pm an cdv ct) ⟨us, ks.zip ws⟩ = pure (ps.zip (us ++ ws))) :
    Mal P w K mg base k cls n ks (fun us ws => us ++ ws) g := by
  obtain ⟨oc, od, dV, kV, doc, pm, an, cdv, ct, osl, e, lk, hcd, hD, hK⟩ := id F.ex
  rcases hD with ⟨_, rfl⟩ | ⟨e, _⟩
  · subst e
    exact ⟨C, f, _, ps, fun us ws => us ++ ws, fun us ws => us ++ ws, hn, PySem.W.mg_of X G hn, mk, Fn, ⟨fun s us ws X l1 l2 => .of_eq (hb _ _ _ _ _ _ us ws l1 l2), fun r1 r2 => r1.append r2⟩, fun fa F x vs zs ds es _ _ r1 r2 => ⟨vs ++ zs, rfl, r1.append r2⟩⟩
  · exact absurd rfl e
end
end DL

set_option Elab.async false
set_option linter.all false
set_option maxRecDepth 100000
set_option maxHeartbeats 2000000
/-! The data layer: how the newer computations run. -/
namespace DL
open PySem PySem.Spec PyProof.Rows L2
section
variable {ρ : Env'} {s : FS} {Q : D → FS → Prop} {QL : List D → FS → Prop} {f1 : Env' → M D} {fl fk : Env' → M (List D)} {c f : Str} {fs : List (Str × D)}
theorem Rm.attr {tab : List (Str × AK)} (h : Rm (f1 ρ) s fun x s => Rm (attrD tab f x) s Q) : Rm (dAttr tab f f1 ρ) s Q := Rm.bind h
theorem Rm.attrF {tab : List (Str × AK)} {d : D} (e : tab.lookup c = some .fld) (l : fs.lookup f = some d) (q : Q d s) : Rm (attrD tab f (.ins c fs)) s Q := by
  unfold attrD
  dsimp only
  rw [e]
  exact Rm.lift l q
theorem Rm.attrP {tab : List (Str × AK)} {g : List D → M D} (e : tab.lookup c = some (.prop g)) (h : Rm (g [.ins c fs]) s Q) : Rm (attrD tab f (.ins c fs)) s Q := by
  unfold attrD
  dsimp only
  rw [e]
  exact Rm.quiet h
theorem Rm.meth {tab : List (Str × (List D → M D))} {m : Str} (h : Rm (f1 ρ) s fun x s => Rm (M.lift (methOf tab m x)) s fun g s => Rm (fl ρ) s fun xs s => Rm (g (x :: xs)) s Q) : Rm (dMeth tab m f1 fl ρ) s Q := Rm.bind (h.mono fun _ _ h => Rm.bind (h.mono fun _ _ h => Rm.bind h))
theorem Rm.make {cls : Str} {n m : Nat} {perm : List D → List D → List D} {g : Addr → List D → M (List (Str × D))} (h : Rm (fl ρ) s fun xs s => Rm (fk ρ) s fun zs s => (xs.length = n ∧ zs.length = m) ∧ Rm (makeD cls g (perm xs zs)) s Q) : Rm (dMake cls n m perm g fl fk ρ) s Q :=
  Rm.bind (h.mono fun xs s h => Rm.bind (h.mono fun zs s ⟨h1, h2⟩ => by rw [if_pos h1]; exact h2))
theorem Rm.makeD {cls : Str} {g : Addr → List D → M (List (Str × D))} {ds : List D} {s' : FS} (h : ∀ x, g x ds s = .ok fs s') (q : Q (.ins cls fs) s') : Rm (DL.makeD cls g ds) s Q := Rm.eq (makeD_eq h) q
theorem Rm.init {n k : Nat} {cls : Str} {body : Sts → M (Fl × Sts)} {x : Addr} {ds : List D} {QF : List (Str × D) → FS → Prop} (hk : ds.length + 1 = k) (h : Rm (body (.oi x cls [] :: (ds.map EV.d ++ List.replicate (n - k) .no))) s fun p s => Rm (initK x cls p) s QF) : Rm (initRun n k cls body x ds) s QF := by
  unfold initRun
  rw [if_pos hk]
  exact Rm.bind h
theorem Rm.initk {cls : Str} {x : Addr} {ρ : Sts} {QF : List (Str × D) → FS → Prop} (e : ρ[0]? = some (.oi x cls fs)) (q : QF fs s) : Rm (initK x cls (.nx, ρ)) s QF := by
  unfold initK slfOf
  rw [e]
  dsimp only
  rw [if_pos ⟨rfl, rfl⟩]
  exact ⟨q⟩
theorem Rm.callS {g : List D → M D} (h : Rm (f1 ρ) s fun x s => Rm (M.lift (seqD x)) s fun xs s => Rm (g xs) s Q) : Rm (dCallS g f1 ρ) s Q := Rm.bind (h.mono fun _ _ h => Rm.bind h)
theorem Rm.star {n : Nat} {g : List D → M D} {ds : List D} (h : n ≤ ds.length ∧ ds.length - n ≤ sizeLine) (q : Rm (g (ds.take n ++ [.tup (ds.drop n)])) s Q) : Rm (starD n g ds) s Q := by
  unfold starD
  rw [if_pos h]
  exact q
end
section
variable {ρ : Sts} {s : FS} {Q : Fl × Sts → FS → Prop} {QV : EV × Sts → FS → Prop} {fv fv2 fv3 : Sts → M (EV × Sts)} {i j l : Nat} {c f : Str} {fs : List (Str × D)}
theorem Rm.par3 (hl : i < ρ.length ∧ j < ρ.length ∧ l < ρ.length) (h : Rm (fv ρ) s fun p s => Rm (fv2 p.2) s fun q s => Rm (fv3 q.2) s fun r s => Q (.nx, ((r.2.set i p.1).set j q.1).set l r.1) s) : Rm (gPar3 i j l fv fv2 fv3 ρ) s Q := by
  unfold gPar3
  rw [if_pos hl]
  exact Rm.bind (h.mono fun p s h => Rm.bind (h.mono fun q s h => Rm.bindP h))
def fldK (i : Nat) (cls f : Str) (p : EV × Sts) : M (Fl × Sts) := match p.1, p.2[i]? with
  | .d x, some (EV.oi y c fs) => if fs.length < 1000 ∧ c = cls then M.pure (.nx, p.2.set i (.oi y c (putFD f x fs))) else M.bad
  | _, _ => M.bad
theorem Rm.fld (h : Rm (fv ρ) s fun p s => Rm (fldK i c f p) s Q) : Rm (gFld i c f fv ρ) s Q := Rm.bind h
theorem Rm.fldk {x : D} {y : Addr} (e : ρ[i]? = some (.oi y c fs)) (hl : fs.length < 1000) (q : Q (.nx, ρ.set i (.oi y c (putFD f x fs))) s) : Rm (fldK i c f (.d x, ρ)) s Q := by
  unfold fldK
  dsimp only
  rw [e]
  dsimp only
  rw [if_pos ⟨hl, rfl⟩]
  exact ⟨q⟩
def fldsK (i : Nat) (cls : Str) (fns : List Str) (q : List D × Sts) : M (Fl × Sts) := match q.2[i]? with
  | some (EV.oi y c fs) => if q.1.length = fns.length ∧ fs.length + fns.length < 1000 ∧ c = cls then M.pure (.nx, q.2.set i (.oi y c (putAll fns q.1 fs))) else M.bad
  | _ => M.bad
theorem Rm.flds {fns : List Str} {fl : Sts → M (List D × Sts)} (h : Rm (fl ρ) s fun p s => Rm (fldsK i c fns p) s Q) : Rm (gFlds i c fns fl ρ) s Q := Rm.bind h
theorem Rm.fldsk {fns : List Str} {xs : List D} {y : Addr} (e : ρ[i]? = some (.oi y c fs)) (hl : xs.length = fns.length ∧ fs.length + fns.length < 1000) (q : Q (.nx, ρ.set i (.oi y c (putAll fns xs fs))) s) : Rm (fldsK i c fns (xs, ρ)) s Q := by
  unfold fldsK
  dsimp only
  rw [e]
  dsimp only
  rw [if_pos ⟨hl.1, hl.2, rfl⟩]
  exact ⟨q⟩
theorem Rm.vnewDc {g : Env' → M (List (Key × D))} (h : Rm (g (mask ρ)) s fun xs s => QV (.od xs, ρ) s) : Rm (vNewDc g ρ) s QV := Rm.bindP h
theorem Rm.vviewT {g : Env' → M D} (h : Rm (g (view ρ)) s fun x s => tupsB x = true ∧ QV (.d x, ρ) s) : Rm (vViewT g ρ) s QV := Rm.bind (h.mono fun x s ⟨h1, h2⟩ => by rw [if_pos h1]; exact ⟨h2⟩)
theorem tupsAnd {d : D} {p : Prop} (h : tupsB d = true) (q : p) : tupsB d = true ∧ p := ⟨h, q⟩
theorem Rm.setDc {g : Env' → M (List (Key × D))} (h : Rm (g (mask ρ)) s fun xs s => Q (.nx, ρ.set i (.od xs)) s) : Rm (gSet i (vNewDc g) ρ) s Q := Rm.set (Rm.vnewDc h)
theorem Rm.setVT {g : Env' → M D} (h : Rm (g (view ρ)) s fun x s => tupsB x = true ∧ Q (.nx, ρ.set i (.d x)) s) : Rm (gSet i (vViewT g) ρ) s Q := Rm.set (Rm.vviewT h)
end
section
variable {ρ : Env'} {s : FS} {it it1 : Env' → M (List D)} {b b1 : D → Option Asg} {c c1 : Env' → M Bool} {f kf vf : Env' → M D} {xs : List D} {Q : List D → FS → Prop} {QK : List (Key × D) → FS → Prop} {lim : Nat} {okI : D → Bool} {vs : List Nat}
/-- a comprehension with a test, known -/
theorem lcE_filter (p : D → Bool) (G : D → D) (h : ∀ x, x ∈ xs → ∃ as, b x = some as ∧ c (setE as ρ) s = .ok (p x) s ∧ (p x = true → f (setE as ρ) s = .ok (G x) s)) : lcE b c f xs ρ s = .ok ((xs.filter p).map G) s := by
  induction xs with
  | nil => rfl
  | cons x r ih =>
    obtain ⟨as, e, h1, h2⟩ := h x List.mem_cons_self
    have ih := ih fun x hx => h x (List.mem_cons_of_mem _ hx)
    refine Rm.det ?_
    show Rm (M.bind (M.lift (b x)) _) s _
    rw [e]
    refine Rm.bind (Rm.lift rfl (Rm.bind (Rm.eq h1 ?_)))
    cases hp : p x with
    | true =>
      rw [List.filter_cons_of_pos hp]
      rw [if_pos rfl]
      exact Rm.bind (Rm.eq (h2 hp) (Rm.bind (Rm.eq ih ⟨⟨rfl, rfl⟩⟩)))
    | false =>
      rw [List.filter_cons_of_neg (by rw [hp]; decide)]
      rw [if_neg (by decide)]
      exact Rm.eq ih ⟨rfl, rfl⟩
theorem lcE_map (G : D → D) (h : ∀ x, x ∈ xs → ∃ as, b x = some as ∧ f (setE as ρ) s = .ok (G x) s) : lcE b cYes f xs ρ s = .ok (xs.map G) s := by
  have := lcE_filter (c := cYes) (xs := xs) (b := b) (f := f) (ρ := ρ) (s := s) (fun _ => true) G fun x hx => by
    obtain ⟨as, e, h1⟩ := h x hx
    exact ⟨as, e, rfl, fun _ => h1⟩
  rw [this, List.filter_eq_self.mpr fun _ _ => rfl]
theorem Rm.lcEq {ys : List D} (h : Rm (it ρ) s fun xs s => xs.length ≤ sizeLine ∧ lcE b c f xs ρ s = .ok ys s ∧ Q ys s) : Rm (dLc it b c f ρ) s Q := Rm.lc (h.mono fun xs s ⟨h1, h2, h3⟩ => ⟨h1, Rm.eq h2 h3⟩)
theorem lcE2_flat (G : D → List D) (h : ∀ x, x ∈ xs → ∃ as, b x = some as ∧ c (setE as ρ) s = .ok true s ∧ ∃ ys, it1 (setE as ρ) s = .ok ys s ∧ lcE b1 c1 f ys (setE as ρ) s = .ok (G x) s) : lcE2 b c it1 b1 c1 f xs ρ s = .ok (xs.flatMap G) s := by
  induction xs with
  | nil => rfl
  | cons x r ih =>
    obtain ⟨as, e, h1, ys, h2, h3⟩ := h x List.mem_cons_self
    have ih := ih fun x hx => h x (List.mem_cons_of_mem _ hx)
    refine Rm.det ?_
    show Rm (M.bind (M.lift (b x)) _) s _
    rw [e]
    refine Rm.bind (Rm.lift rfl (Rm.bind (Rm.eq h1 ?_)))
    rw [if_pos rfl]
    exact Rm.bind (Rm.eq h2 (Rm.bind (Rm.eq h3 (Rm.bind (Rm.eq ih ⟨⟨by rw [List.flatMap_cons], rfl⟩⟩)))))
theorem Rm.lc2 {ys : List D} (h : Rm (it ρ) s fun xs s => lcE2 b c it1 b1 c1 f xs (wipeE ρ vs) s = .ok ys s ∧ fitsL lim okI ys = true ∧ Q ys s) : Rm (dLc2 lim okI vs it b c it1 b1 c1 f ρ) s Q :=
  Rm.bind (h.mono fun xs s ⟨h1, h2, h3⟩ => Rm.bind (Rm.quiet (Rm.eq h1 (by rw [if_pos h2]; exact ⟨h3⟩))))
theorem Rm.sortSet2 {QD : D → FS → Prop} (h : Rm (dLc2 4000 isStrD vs it b c it1 b1 c1 f ρ) s fun ys s => Rm (M.lift (sortSetD ys)) s QD) : Rm (dSortSet2 vs it b c it1 b1 c1 f ρ) s QD := Rm.bind h
/-- what a dict comprehension with no test gathers -/
def dcAll (kf : D → Key) (vf : D → D) : List D → List (Key × D) → List (Key × D)
  | [], acc => acc
  | x :: xs, acc => dcAll kf vf xs (putD acc (kf x) (vf x))
theorem putD_le (acc : List (Key × D)) (k : Key) (v : D) : (putD acc k v).length ≤ acc.length + 1 := by
  unfold putD
  split <;> simp
theorem dcE_all (gk : D → Key) (gv : D → D) {acc : List (Key × D)} (hl : acc.length + xs.length ≤ sizeLine) (h : ∀ x, x ∈ xs → ∃ as, b x = some as ∧ kf (setE as ρ) s = .ok (keyV (gk x)) s ∧ vf (setE as ρ) s = .ok (gv x) s) : dcE b cYes kf vf xs ρ acc s = .ok (dcAll gk gv xs acc) s := by
  induction xs generalizing acc with
  | nil => rfl
  | cons x r ih =>
    obtain ⟨as, e, h1, h2⟩ := h x List.mem_cons_self
    rw [List.length_cons] at hl
    have ih := ih (acc := putD acc (gk x) (gv x)) (by have := putD_le acc (gk x) (gv x); omega) fun x hx => h x (List.mem_cons_of_mem _ hx)
    refine Rm.det ?_
    show Rm (M.bind (M.lift (b x)) _) s _
    rw [e]
    refine Rm.bind (Rm.lift rfl (Rm.bind (Rm.cyes ?_)))
    rw [if_pos rfl]
    refine Rm.bind (Rm.eq h1 (Rm.bind (Rm.eq h2 (Rm.bind (Rm.lift (a := gk x) ?_ ?_)))))
    · cases gk x <;> rfl
    · rw [if_pos (by omega)]
      exact Rm.eq ih ⟨rfl, rfl⟩
theorem Rm.dc {ys : List (Key × D)} (h : Rm (it ρ) s fun xs s => dcE b c kf vf xs ρ [] s = .ok ys s ∧ QK ys s) : Rm (dDc it b c kf vf ρ) s QK := Rm.bind (h.mono fun xs s ⟨h1, h2⟩ => Rm.quiet (Rm.eq h1 h2))
end
end DL

set_option Elab.async false
set_option linter.all false
set_option maxRecDepth 100000
set_option maxHeartbeats 2000000
/-! The data layer: a new list of plain things that owned things tell. -/
namespace DL
open PySem PySem.Spec PyProof.Rows L2
section
variable {X : Cx} {fa : Option FA} {W : XK}
def vViewL (f : Env' → M (List D)) : Sts → M (EV × Sts) := fun ρ => (f (view ρ)).bind fun xs => if tupsL xs = true then M.pure (.d (.lst xs), ρ) else M.bad
open Classical in
theorem vok_viewL {t : TE} {f : Env' → M (List D)} (h : NOk X fa (fun _ => W) t f) : VOk X fa W t (vViewL f) := by
  intro B F0 H0 F H A σ vs ρ evs s Q hl S hg
  obtain ⟨ff, fh, fo0, ex0⟩ := S.fp
  refine h σ (Fp F H A (ρ ++ evs)) H (view ρ) s Q fh fo0 (S.view hl) ?_
  change GoodV X fa W B F0 H0 σ vs evs ((f (view ρ) s).bnd _) Q at hg
  generalize f (view ρ) s = r at hg
  cases r with
  | bad => exact hg
  | err e s' => exact fun cls dd F' H' e fo rx => hg cls dd F' H' (ex0.trans e) fo rx
  | ok xs s' =>
    intro p vs' F' H' e fo hp fp hq r
    change GoodV X fa W B F0 H0 σ vs evs ((if tupsL xs = true then M.pure (EV.d (.lst xs), ρ) else M.bad) s') Q at hg
    by_cases q : tupsL xs = true
    · rw [if_pos q] at hg
      let F2 : Hp := fun b => if b = p then some (.lst vs') else if H b = none then F' b else F b
      have f2p : F2 p = some (.lst vs') := if_pos rfl
      have f2n : ∀ b, b ≠ p → H b = none → F2 b = F' b := fun b h1 h2 => by
        show (if b = p then _ else if H b = none then F' b else F b) = _
        rw [if_neg h1, if_pos h2]
      have f2o : ∀ b, H b ≠ none → F2 b = F b := fun b h2 => by
        show (if b = p then _ else if H b = none then F' b else F b) = _
        have h1 : b ≠ p := fun z => h2 (by rw [z]; exact hp)
        rw [if_neg h1, if_neg h2]
      have e2 : Ext fa F H F2 H' := by
        refine ⟨fun b u z => ?_, fun b u z => ?_, e.hh, fun b z => f2o b z, e.al⟩
        · rw [f2o b (by rw [S.ext.fh b u z]; simp)]; exact z
        · by_cases hbp : b = p
          · subst hbp
            rw [f2p] at z
            rw [hq]; exact z
          · by_cases hb : H b = none
            · rw [f2n b hbp hb] at z
              exact e.fh b u z
            · rw [f2o b hb] at z
              exact e.fh b u (e.ff b u (ff b u z))
      have fo2 : FeedOk X.K fa F2 H' s' := fun φ z => by
        obtain ⟨h1, h2, h3, h4⟩ := S.fd φ z
        obtain ⟨g1, g2, g3, g4⟩ := fo φ z
        exact ⟨by rw [f2o _ (by rw [h3]; simp)]; exact h1, g2, g3, e2.ff _ _ h4⟩
      have S2 := S.step e2 fo2
      refine hg (.ref p) _ H' A (S2.push (.lst f2p (tups_repL (fun a xs hs => ?_) r q)))
      rcases hs with hs | hs
      · refine .inl ?_
        have key : ∀ u, F' a = some u → (∀ w, u ≠ .lst w) → (∀ w, u ≠ .dK w) → (∀ C d w, u ≠ .ins C d w) → F2 a = some u := fun u hu n1 n2 n3 => by
          have hap : a ≠ p := fun z => by rw [z, fp] at hu; cases hu
          by_cases hb : H a = none
          · rw [f2n a hap hb]; exact hu
          · rw [f2o a hb]
            have z := e.fr a hb
            rw [hu] at z
            by_cases own : ∃ i ev, (ρ ++ evs)[i]? = some ev ∧ ev.own = true ∧ A i = a
            · obtain ⟨i, ev, hi, ho, rfl⟩ := own
              rw [Fp_own hi ho] at z
              have sl := S.slot i ev hi
              cases ev with
              | ol xs => obtain ⟨_, _, _, _, w, g, _⟩ := sl; rw [g] at z; exact absurd (Option.some.inj z) (n1 _)
              | od xs => obtain ⟨_, _, _, _, w, g, _⟩ := sl; rw [g] at z; exact absurd (Option.some.inj z) (n2 _)
              | oi y c xs => obtain ⟨_, _, _, _, _, C, dx, w, g, _⟩ := sl; rw [g] at z; exact absurd (Option.some.inj z) (n3 _ _ _)
              | _ => cases ho
            · rw [Fp_not own] at z
              exact z.symm
        rcases hs with hs | ⟨o, hs⟩
        · exact .inl (key _ hs (by intro w z; cases z) (by intro w z; cases z) (by intro C d w z; cases z))
        · exact .inr ⟨o, key _ hs (by intro w z; cases z) (by intro w z; cases z) (by intro C d w z; cases z)⟩
      · exact .inr hs
    · rw [if_neg q] at hg
      exact hg.elim
theorem vj_viewL {e : Expr} {f : Env' → M (List D)} (h : ND X fa (fun _ => W) e f) : VJ X fa W e (vViewL f) := by
  obtain ⟨t, p, k⟩ := h
  exact ⟨t, p, vok_viewL k⟩
theorem Rm.vviewL {ρ : Sts} {s : FS} {QV : EV × Sts → FS → Prop} {f : Env' → M (List D)} (h : Rm (f (view ρ)) s fun xs s => tupsL xs = true ∧ QV (.d (.lst xs), ρ) s) : Rm (vViewL f ρ) s QV := Rm.bind (h.mono fun x s ⟨h1, h2⟩ => by rw [if_pos h1]; exact ⟨h2⟩)
def intFB : List D → Option D
  | [.int i] => some (.int i)
  | [.bl k] => some (.int (if k then 1 else 0))
  | _ => none
theorem ok_intFB : CallOk X fa (fun xs H Q => (∃ i, xs = [.int i] ∧ Q (.int i) H) ∨ ∃ k, xs = [.bl k] ∧ Q (.int (if k then 1 else 0)) H) intFB := by
  intro F H s xs as Q h1 h2 r h
  cases r with
  | nil => exact h.elim
  | cons r t =>
    cases t with
    | cons _ _ => cases r <;> exact h.elim
    | nil =>
      cases r with
      | int i => exact .inl ⟨i, rfl, GoodO.here h1 h2 (.int _) h⟩
      | bl k => exact .inr ⟨k, rfl, GoodO.here h1 h2 (.int _) h⟩
      | _ => exact h.elim
theorem tupsL_ints : ∀ xs : List Int, tupsL (xs.map D.int) = true
  | [] => by rw [List.map_nil, tupsL]
  | x :: r => by rw [List.map_cons, tupsL, tupsL_ints r, tupsB]; rfl
theorem tupsL_strs : ∀ xs : List Str, tupsL (xs.map D.str) = true
  | [] => by rw [List.map_nil, tupsL]
  | x :: r => by rw [List.map_cons, tupsL, tupsL_strs r, tupsB]; rfl
end
end DL

set_option Elab.async false
set_option linter.all false
set_option maxRecDepth 100000
set_option maxHeartbeats 2000000
/-! The data layer: one step of a run, found by its head. -/
namespace DL
open PySem PySem.Spec PyProof.Rows L2
class RmStep {α : Type} (m : M α) (s : FS) (Q : α → FS → Prop) (P : outParam Prop) : Prop where
  go : P → Rm m s Q
theorem Rm.step {α : Type} {m : M α} {s : FS} {Q : α → FS → Prop} {P : Prop} [h : RmStep m s Q P] (p : P) : Rm m s Q := h.go p
section
variable {ρ : Env'} {s : FS} {Q : D → FS → Prop} {QL : List D → FS → Prop} {QB : Bool → FS → Prop} {f f1 f2 f3 : Env' → M D} {fl : Env' → M (List D)} {c c1 c2 : Env' → M Bool} {g g' : D → D → Option D}
instance {α β : Type} {m : M α} {f : α → M β} {Q : β → FS → Prop} : RmStep (M.bind m f) s Q (Rm m s fun a s' => Rm (f a) s' Q) := ⟨Rm.bind⟩
instance {α : Type} {a : α} {Q : α → FS → Prop} : RmStep (M.pure a) s Q (Q a s) := ⟨Rm.pure⟩
instance {α : Type} {x y : M α} {Q : α → FS → Prop} : RmStep (if true = true then x else y) s Q (Rm x s Q) := ⟨Rm.iteT⟩
instance {α : Type} {x y : M α} {Q : α → FS → Prop} : RmStep (if false = true then x else y) s Q (Rm y s Q) := ⟨Rm.iteF⟩
instance {i : Nat} : RmStep (dVar i ρ) s Q (Rm (M.lift (ρ[i]?.join)) s Q) := ⟨Rm.var⟩
instance {d : D} : RmStep (dC d ρ) s Q (Q d s) := ⟨Rm.con⟩
instance : RmStep (dOp g f1 f2 ρ) s Q (Rm (f1 ρ) s fun x s => Rm (f2 ρ) s fun y s => Rm (M.lift (g x y)) s Q) := ⟨Rm.op⟩
instance {g : D → Option D} : RmStep (dUn g f1 ρ) s Q (Rm (f1 ρ) s fun x s => Rm (M.lift (g x)) s Q) := ⟨Rm.un⟩
instance : RmStep (lNil ρ) s QL (QL [] s) := ⟨Rm.lnil⟩
instance : RmStep (lCons f1 fl ρ) s QL (Rm (f1 ρ) s fun x s => Rm (fl ρ) s fun xs s => QL (x :: xs) s) := ⟨Rm.lcons⟩
instance {g : List D → Option D} : RmStep (dFn g fl ρ) s Q (Rm (fl ρ) s fun xs s => Rm (M.lift (g xs)) s Q) := ⟨Rm.fn⟩
instance {g : List D → M D} : RmStep (dCall g fl ρ) s Q (Rm (fl ρ) s fun xs s => Rm (g xs) s Q) := ⟨Rm.call⟩
instance {g : D → List D → Option D} : RmStep (dMt g f1 fl ρ) s Q (Rm (f1 ρ) s fun x s => Rm (fl ρ) s fun xs s => Rm (M.lift (g x xs)) s Q) := ⟨Rm.mt⟩
instance : RmStep (dIf c f1 f2 ρ) s Q (Rm (c ρ) s fun k s => Rm (if k = true then f1 ρ else f2 ρ) s Q) := ⟨Rm.dif⟩
instance : RmStep (dAnd f1 f2 ρ) s Q (Rm (f1 ρ) s fun x s => Rm (M.lift (truthD x)) s fun k s => Rm (if k = true then f2 ρ else M.pure x) s Q) := ⟨Rm.dand⟩
instance : RmStep (dOr f1 f2 ρ) s Q (Rm (f1 ρ) s fun x s => Rm (M.lift (truthD x)) s fun k s => Rm (if k = true then M.pure x else f2 ρ) s Q) := ⟨Rm.dor⟩
instance : RmStep (dNot f1 ρ) s Q (Rm (f1 ρ) s fun x s => Rm (M.lift (truthD x)) s fun k s => Q (.bl (!k)) s) := ⟨Rm.dnot⟩
instance : RmStep (cTru f1 ρ) s QB (Rm (f1 ρ) s fun x s => Rm (M.lift (truthD x)) s QB) := ⟨Rm.tru⟩
instance : RmStep (cCmp g f1 f2 ρ) s QB (Rm (f1 ρ) s fun x s => Rm (f2 ρ) s fun y s => Rm (M.lift (g x y)) s fun z s => Rm (M.lift (blD z)) s QB) := ⟨Rm.cmp⟩
instance : RmStep (cNot c ρ) s QB (Rm (c ρ) s fun k s => QB (!k) s) := ⟨Rm.cnot⟩
instance : RmStep (cAnd c1 c2 ρ) s QB (Rm (c1 ρ) s fun k s => Rm (if k = true then c2 ρ else M.pure false) s QB) := ⟨Rm.cand⟩
instance : RmStep (cOr c1 c2 ρ) s QB (Rm (c1 ρ) s fun k s => Rm (if k = true then M.pure true else c2 ρ) s QB) := ⟨Rm.cor⟩
instance : RmStep (cYes ρ) s QB (QB true s) := ⟨Rm.cyes⟩
instance {ts : List String} : RmStep (dIsi ts f ρ) s Q (Rm (f ρ) s fun x s => Rm (M.lift ((tyD x).bind fun t => (kitAnyB t ts).map D.bl)) s Q) := ⟨Rm.isi⟩
instance : RmStep (dNew fl ρ) s Q (Rm (fl ρ) s fun xs s => Q (.lst xs) s) := ⟨Rm.dnew⟩
instance {lo hi : Env' → M (Option Int)} : RmStep (dSl f lo hi ρ) s Q (Rm (f ρ) s fun x s => Rm (lo ρ) s fun l s => Rm (hi ρ) s fun u s => Rm (M.lift (slD x l u)) s Q) := ⟨Rm.sl⟩
instance {Q : Option Int → FS → Prop} : RmStep (oNo ρ) s Q (Q none s) := ⟨Rm.ono⟩
instance {Q : Option Int → FS → Prop} : RmStep (oSome f ρ) s Q (Rm (f ρ) s fun x s => Rm (M.lift (intD x)) s Q) := ⟨Rm.osome⟩
instance : RmStep (iAny f ρ) s QL (Rm (f ρ) s fun x s => Rm (M.lift (anyD' x)) s QL) := ⟨Rm.iany⟩
instance {g : List D → Option (List D)} : RmStep (iFn g fl ρ) s QL (Rm (fl ρ) s fun x s => Rm (M.lift (g x)) s QL) := ⟨Rm.ifn⟩
instance {it : Env' → M (List D)} {b : D → Option Asg} : RmStep (dLc it b c f ρ) s QL (Rm (it ρ) s fun xs s => xs.length ≤ sizeLine ∧ Rm (lcE b c f xs ρ) s QL) := ⟨Rm.lc⟩
instance : RmStep (dChain g g' f1 f2 f3 ρ) s Q (Rm (f1 ρ) s fun x s => Rm (f2 ρ) s fun y s => Rm (M.lift (g x y)) s fun z s => Rm (M.lift (blD z)) s fun k s => Rm (Rm.chainK g' f3 ρ y k) s Q) := ⟨Rm.chain⟩
instance : RmStep (cChain g g' f1 f2 f3 ρ) s QB (Rm (dChain g g' f1 f2 f3 ρ) s fun z s => Rm (M.lift (blD z)) s QB) := ⟨Rm.cchain⟩
instance {tab : List (Str × AK)} {f : Str} : RmStep (dAttr tab f f1 ρ) s Q (Rm (f1 ρ) s fun x s => Rm (attrD tab f x) s Q) := ⟨Rm.attr⟩
instance {tab : List (Str × (List D → M D))} {m : Str} : RmStep (dMeth tab m f1 fl ρ) s Q (Rm (f1 ρ) s fun x s => Rm (M.lift (methOf tab m x)) s fun g s => Rm (fl ρ) s fun xs s => Rm (g (x :: xs)) s Q) := ⟨Rm.meth⟩
instance {g : List D → M D} : RmStep (dCallS g f1 ρ) s Q (Rm (f1 ρ) s fun x s => Rm (M.lift (seqD x)) s fun xs s => Rm (g xs) s Q) := ⟨Rm.callS⟩
instance {a b : Int} : RmStep (M.lift (eqD (.int a) (.int b))) s Q (Q (.bl (decide (a = b))) s) := ⟨Rm.eqi⟩
end
section
variable {ρ : Sts} {s : FS} {Q : Fl × Sts → FS → Prop} {QV : EV × Sts → FS → Prop} {QL : List D × Sts → FS → Prop} {g g' : Sts → M (Fl × Sts)} {fv fv2 : Sts → M (EV × Sts)} {f : Env' → M D} {c : Env' → M Bool} {fl : Sts → M (List D × Sts)} {fn : Env' → M (List D)} {i : Nat} {d : D}
instance : RmStep (gSeq g g' ρ) s Q (Rm (g ρ) s fun p s => Rm (seqK g' p) s Q) := ⟨Rm.seq⟩
instance : RmStep (seqK g (.nx, ρ)) s Q (Rm (g ρ) s Q) := ⟨Rm.seqNx⟩
instance : RmStep (seqK g (.rt d, ρ)) s Q (Q (.rt d, ρ) s) := ⟨Rm.seqRt⟩
instance : RmStep (seqK g (.ct, ρ)) s Q (Q (.ct, ρ) s) := ⟨Rm.seqCt⟩
instance : RmStep (seqK g (.bk, ρ)) s Q (Q (.bk, ρ) s) := ⟨Rm.seqBk⟩
instance : RmStep (gNext ρ) s Q (Q (.nx, ρ) s) := ⟨Rm.next⟩
instance (priority := low) : RmStep (gSet i fv ρ) s Q (Rm (fv ρ) s fun p s => Q (.nx, p.2.set i p.1) s) := ⟨Rm.set⟩
instance : RmStep (gSet i (vMask f) ρ) s Q (Rm (f (mask ρ)) s fun x s => Q (.nx, ρ.set i (.d x)) s) := ⟨Rm.setM⟩
instance : RmStep (gSet i (vView f) ρ) s Q (Rm (f (view ρ)) s fun x s => Rm (M.lift (scalD x)) s fun x s => Q (.nx, ρ.set i (.d x)) s) := ⟨Rm.setV⟩
instance : RmStep (gSet i (vNew fn) ρ) s Q (Rm (fn (mask ρ)) s fun x s => Q (.nx, ρ.set i (.ol x)) s) := ⟨Rm.setN⟩
instance : RmStep (gSet i (vViewT f) ρ) s Q (Rm (f (view ρ)) s fun x s => tupsB x = true ∧ Q (.nx, ρ.set i (.d x)) s) := ⟨Rm.setVT⟩
instance : RmStep (gDrop fv ρ) s Q (Rm (fv ρ) s fun p s => Q (.nx, p.2) s) := ⟨Rm.drop⟩
instance : RmStep (gIf c g g' ρ) s Q (Rm (c (view ρ)) s fun k s => Rm (if k = true then g ρ else g' ρ) s Q) := ⟨Rm.cond⟩
instance : RmStep (gRet f ρ) s Q (Rm (f (view ρ)) s fun x s => Q (.rt x, ρ) s) := ⟨Rm.ret⟩
instance : RmStep (gRetN ρ) s Q (Q (.rt .non, ρ) s) := ⟨Rm.retN⟩
instance : RmStep (gBreak ρ) s Q (Q (.bk, ρ) s) := ⟨Rm.brk⟩
instance : RmStep (gCont ρ) s Q (Q (.ct, ρ) s) := ⟨Rm.cont⟩
instance : RmStep (gFrz i g ρ) s Q (Rm (g (DL.frz i ρ)) s Q) := ⟨Rm.frz⟩
instance : RmStep (vMask f ρ) s QV (Rm (f (mask ρ)) s fun x s => QV (.d x, ρ) s) := ⟨Rm.vmask⟩
instance : RmStep (vView f ρ) s QV (Rm (f (view ρ)) s fun x s => Rm (M.lift (scalD x)) s fun x s => QV (.d x, ρ) s) := ⟨Rm.vview⟩
instance : RmStep (vNew fn ρ) s QV (Rm (fn (mask ρ)) s fun x s => QV (.ol x, ρ) s) := ⟨Rm.vnew⟩
instance : RmStep (vNewD ρ) s QV (QV (.od [], ρ) s) := ⟨Rm.vnewD⟩
instance : RmStep (vViewT f ρ) s QV (Rm (f (view ρ)) s fun x s => tupsB x = true ∧ QV (.d x, ρ) s) := ⟨Rm.vviewT⟩
instance : RmStep (vViewL fn ρ) s QV (Rm (fn (view ρ)) s fun xs s => tupsL xs = true ∧ QV (.d (.lst xs), ρ) s) := ⟨Rm.vviewL⟩
instance : RmStep (lvNil ρ) s QL (QL ([], ρ) s) := ⟨Rm.lvnil⟩
instance : RmStep (lvCons fv fl ρ) s QL (Rm (fv ρ) s fun p s => Rm (Rm.lvK fl p) s QL) := ⟨Rm.lvcons⟩
instance {x : D} : RmStep (Rm.lvK fl (.d x, ρ)) s QL (Rm (fl ρ) s fun q s => QL (x :: q.1, q.2) s) := ⟨Rm.lvk⟩
instance {b : D → Option Asg} : RmStep (gAsgT b fv ρ) s Q (Rm (fv ρ) s fun p s => Rm (Rm.asgK b p) s Q) := ⟨Rm.asgT⟩
instance {b : D → Option Asg} {x : D} : RmStep (Rm.asgK b (.d x, ρ)) s Q (Rm (M.lift (b x)) s fun as s => Q (.nx, setS as ρ) s) := ⟨Rm.asgk⟩
instance {it : Env' → M (List D)} {b : D → Option Asg} : RmStep (gFor it b g ρ) s Q (Rm (it (mask ρ)) s fun xs s => Rm (forS b g xs ρ) s Q) := ⟨Rm.for_⟩
instance : RmStep (gStD i fv fv2 ρ) s Q (Rm (fv ρ) s fun p s => Rm (Rm.stdK i fv2 p) s Q) := ⟨Rm.stD⟩
instance {Q : D → FS → Prop} : RmStep (runK (.nx, ρ)) s Q (Q .non s) := ⟨Rm.runNx⟩
instance {Q : D → FS → Prop} : RmStep (runK (.rt d, ρ)) s Q (Q d s) := ⟨Rm.runRt⟩
instance {cl f : Str} : RmStep (gFld i cl f fv ρ) s Q (Rm (fv ρ) s fun p s => Rm (fldK i cl f p) s Q) := ⟨Rm.fld⟩
instance {cl : Str} {fns : List Str} : RmStep (gFlds i cl fns fl ρ) s Q (Rm (fl ρ) s fun p s => Rm (fldsK i cl fns p) s Q) := ⟨Rm.flds⟩
end
end DL

set_option Elab.async false
set_option linter.all false
set_option maxRecDepth 100000
set_option maxHeartbeats 4000000
namespace Q
open PySem PySem.Spec PyProof.Rows L2 DL
def topS (i : Nat) : Stmt := PySem.Challenge.pw_quietsides_k41_programs_that_take_fronts.main.body.getD i (.Pass ⟨0, 0, 0, 0⟩)
def clsBody : Stmt → List Stmt
  | .ClassDef _ _ _ body _ _ _ _ _ _ _ => body
  | _ => []
def mthS (i j : Nat) : Stmt := (clsBody (topS i)).getD j (.Pass ⟨0, 0, 0, 0⟩)
abbrev pmApp : List D → List D → List D := fun us ws => us ++ ws
noncomputable section
def ktab_KINDS : List (Str × Int) := [("map", 4), ("combine", 5), ("into", 5), ("reduce", 6), ("transpose", 4), ("product", 4), ("insert", 4), ("remove", 4), ("squeeze", 3), ("stretch", 4), ("stack", 4), ("select", 5)]
structure Txt (K : PySem.W.Frag) (w : World) (mg : Str → Option Value) : Prop where
  all_ : mg "all" = none
  any_ : mg "any" = none
  bool_ : mg "bool" = none
  dict_ : mg "dict" = none
  enumerate_ : mg "enumerate" = none
  int_ : mg "int" = none
  isinstance_ : mg "isinstance" = none
  len_ : mg "len" = none
  list_ : mg "list" = none
  max_ : mg "max" = none
  range_ : mg "range" = none
  repr_ : mg "repr" = none
  sorted_ : mg "sorted" = none
  str_ : mg "str" = none
  tuple_ : mg "tuple" = none
  MOST_CHECKED_ : ∃ t, mg "MOST_CHECKED" = some (.int 3 t)
  MOST_CHECKS_ : ∃ t, mg "MOST_CHECKS" = some (.int 8 t)
  MOST_DIMENSIONS_ : ∃ t, mg "MOST_DIMENSIONS" = some (.int 4 t)
  MOST_INPUTS_ : ∃ t, mg "MOST_INPUTS" = some (.int 4 t)
  MOST_NAME_ : ∃ t, mg "MOST_NAME" = some (.int 8 t)
  MOST_NUMBER_ : ∃ t, mg "MOST_NUMBER" = some (.int 3 t)
  MOST_STACKED_ : ∃ t, mg "MOST_STACKED" = some (.int 3 t)
  SMALL_ : ∃ t, mg "SMALL" = some (.str "abcdefghijklmnopqrstuvwxyz" t)
  INDEXES_ : TupC K mg "INDEXES" [.int 0, .int 1, .int (-1), .int (-2)]
  RELATIONS_ : TupC K mg "RELATIONS" [.str "equal", .str "unequal"]
  UNSTEADY_ : TupC K mg "UNSTEADY" [.str "squeeze", .str "select"]
  WORDED_ : TupC K mg "WORDED" [.str "map", .str "combine", .str "into", .str "reduce"]
  KINDS_ : KTab K w mg "KINDS" ktab_KINDS
  k_Program_LETTERS : ClsCon K mg "Program" "LETTERS" (.int 4)
  k_Program_STEPS : ClsCon K mg "Program" "STEPS" (.int 10)
  n_Program_own_bound : NoA K "Program" "own_bound"
  n_Program_own_checks : NoA K "Program" "own_checks"
  n_Program_own_inputs : NoA K "Program" "own_inputs"
  n_Program_own_letters : NoA K "Program" "own_letters"
  n_Program_own_names : NoA K "Program" "own_names"
  n_Program_own_steady : NoA K "Program" "own_steady"
  n_Program_own_steps : NoA K "Program" "own_steps"
abbrev s_law_signs : Stmt := topS 54
abbrev n_law_signs : List Str := []
theorem sc_law_signs : FnScope n_law_signs [] (defScope s_law_signs) := ⟨rfl, rfl, rfl, by decide +kernel, rfl, by decide +kernel, by decide +kernel⟩
theorem nd_law_signs : List.Nodup n_law_signs := sc_law_signs.nd
def m_law_signs : M (List D) := M.quiet ((fun ρ => ((lCons (dC (.str "abcdefghijklmnopqrstuvwxyz")) lNil) ρ).bind fun xs => M.lift (listNA xs)) [])
theorem cal_law_signs {P : Program} {w : World} {K : PySem.W.Frag} {mg : Str → Option Value} {base : Heap} (T : Txt K w mg) (D0 : Dff K mg "_law_signs" [] s_law_signs) : CalN P w K mg base 1 "_law_signs" m_law_signs :=
  caln_of D0 fun f fd F => fn_new (k := 0) F sc_law_signs rfl fun cdv A outer s H E fa hr => (nd_listA T.list_ rfl (ld_cons ed_str ld_nil))
abbrev s_law_draw : Stmt := topS 50
abbrev n_law_draw : List Str := ["_law_feed_here", "_law_upto", "_law_cell", "_law_digit", "_law_late"]
theorem sc_law_draw : FnScope n_law_draw ["_law_feed_here", "_law_upto"] (defScope s_law_draw) := ⟨rfl, rfl, rfl, by decide +kernel, rfl, by decide +kernel, by decide +kernel⟩
theorem nd_law_draw : List.Nodup n_law_draw := sc_law_draw.nd
def h_law_draw : DS → Option (Option Int × DS) :=
  (hSeq (hStore (dOp addD (dOp ixD (dVar 0) (dC (.int 3))) (dC (.int 1))) 3)
    (hSeq (hIf (cAnd (cCmp eqD (dOp ixD (dVar 0) (dC (.int 2))) (dC (.int 0))) (cCmp ltD (dOp ixD (dVar 0) (dC (.int 1))) (dFn lenD (lCons (dOp ixD (dVar 0) (dC (.int 0))) lNil)))) (hSeq (hSet 1 (dOp ixD (dOp ixD (dVar 0) (dC (.int 0))) (dOp ixD (dVar 0) (dC (.int 1)))))
    (hSeq (hStore (dOp addD (dOp ixD (dVar 0) (dC (.int 1))) (dC (.int 1))) 1)
    (hIf (cCmp geD (dVar 2) (dOp powD (dC (.int 10)) (dC (.int 18)))) (hStore (dVar 2) 2) (hStore (dOp modD (dFn intF (lCons (dOp addD (dOp addD (dOp mulD (dOp ixD (dVar 0) (dC (.int 4))) (dC (.int 30203))) (dOp mulD (dOp modD (dFn intF (lCons (dVar 2) lNil)) (dC (.int 2147483029))) (dC (.int 611)))) (dC (.int 53))) lNil)) (dC (.int 2147483477))) 4)))) hNext)
    (hSeq (hIf (cCmp gtD (dOp ixD (dVar 0) (dC (.int 2))) (dC (.int 0))) (hSeq (hSet 2 (dOp modD (dFn intF (lCons (dOp ixD (dVar 0) (dC (.int 2))) lNil)) (dVar 1)))
    (hSeq (hStore (dOp fdivD (dOp ixD (dVar 0) (dC (.int 2))) (dVar 1)) 2)
    (hRet (dVar 3)))) hNext)
    (hSeq (hSet 3 (dOp ixD (dVar 0) (dC (.int 4))))
    (hSeq (hSet 3 (dOp addD (dOp addD (dOp addD (dOp mulD (dVar 4) (dVar 4)) (dOp mulD (dVar 4) (dC (.int 20011)))) (dOp mulD (dOp ixD (dVar 0) (dC (.int 3))) (dC (.int 1299721)))) (dC (.int 40009))))
    (hSeq (hStore (dOp modD (dFn intF (lCons (dVar 4) lNil)) (dC (.int 2147483477))) 4)
    (hRet (dOp modD (dFn intF (lCons (dOp addD (dOp fdivD (dOp ixD (dVar 0) (dC (.int 4))) (dC (.int 97))) (dOp mulD (dOp modD (dFn intF (lCons (dOp ixD (dVar 0) (dC (.int 4))) lNil)) (dC (.int 6007))) (dC (.int 71)))) lNil)) (dVar 1)))))))))
theorem draw_runs : ∀ (i : Int) (s s' : FS) (k : Int), s.Ok → drawM i s = .ok k s' → s'.Ok ∧ s'.cells = s.cells ∧ ∃ ρ', h_law_draw ⟨feedL s, some i :: List.replicate 3 none⟩ = some (some k, ⟨feedL s', ρ'⟩) := hDraw_runs
def g_law_draw : List D → M D := feedFn drawM
theorem cal_law_draw {P : Program} {w : World} {K : PySem.W.Frag} {mg : Str → Option Value} {base : Heap} (T : Txt K w mg) (D0 : Dff K mg "_law_draw" ["_law_feed_here", "_law_upto"] s_law_draw) : Cal P w K mg base 1 "_law_draw" ["_law_feed_here", "_law_upto"] g_law_draw :=
  cal_of D0 fun f fd F => fn_feed (k := 0) F sc_law_draw rfl 3 rfl draw_runs fun cdv A outer s H E hr => by
    have hu65 : (A.deeper (envOfC "_law_draw" (defScope s_law_draw) s.heap.objs.size f cdv)).units + 65 < cLine := by
      have := hr.un
      omega
    have hu64 : (A.deeper (envOfC "_law_draw" (defScope s_law_draw) s.heap.objs.size f cdv)).units + 64 < cLine := by omega
    have hu1 : (A.deeper (envOfC "_law_draw" (defScope s_law_draw) s.heap.objs.size f cdv)).units + 1 < cLine := by omega
    exact (sis_cons (si_store (ed_op opr_add ok_add (ed_ix hu1 (ed_var 0) ed_int) ed_int) (pv 0))
    (sis_cons (si_if (TWD.td (twd_and (td_cmp (opr_eq hu64) ok_eq (ed_ix hu1 (ed_var 0) ed_int) ed_int) (twd_and1 (td_cmp op_lt ok_lt (ed_ix hu1 (ed_var 0) ed_int) (ed_callB crl_len ok_len T.len_ (ld_cons (ed_ix hu1 (ed_var 0) ed_int) ld_nil)))))) (sis_cons (si_set (i := 1) nd_law_draw (ed_ix hu1 (ed_ix hu1 (ed_var 0) ed_int) (ed_ix hu1 (ed_var 0) ed_int)))
    (sis_cons (si_store (ed_op opr_add ok_add (ed_ix hu1 (ed_var 0) ed_int) ed_int) (pv 0))
    (sis_one (si_if (td_cmp op_ge ok_ge (ed_var 2) (ed_op op_pow ok_pow ed_int ed_int)) (sis_one (si_store (ed_var 2) (pv 0))) (sis_one (si_store (ed_op op_mod ok_mod (ed_callTy call_int1 ok_int T.int_ (ld_cons (ed_op opr_add ok_add (ed_op opr_add ok_add (ed_op opr_mul ok_mul (ed_ix hu1 (ed_var 0) ed_int) ed_int) (ed_op opr_mul ok_mul (ed_op op_mod ok_mod (ed_callTy call_int1 ok_int T.int_ (ld_cons (ed_var 2) ld_nil)) ed_int) ed_int)) ed_int) ld_nil)) ed_int) (pv 0))))))) sis_nil)
    (sis_cons (si_if (td_cmp op_gt ok_gt (ed_ix hu1 (ed_var 0) ed_int) ed_int) (sis_cons (si_set (i := 2) nd_law_draw (ed_op op_mod ok_mod (ed_callTy call_int1 ok_int T.int_ (ld_cons (ed_ix hu1 (ed_var 0) ed_int) ld_nil)) (ed_var 1)))
    (sis_cons (si_store (ed_op op_fdiv ok_fdiv (ed_ix hu1 (ed_var 0) ed_int) (ed_var 1)) (pv 0))
    (sis_one (si_ret (ed_var 3))))) sis_nil)
    (sis_cons (si_set (i := 3) nd_law_draw (ed_ix hu1 (ed_var 0) ed_int))
    (sis_cons (si_set (i := 3) nd_law_draw (ed_op opr_add ok_add (ed_op opr_add ok_add (ed_op opr_add ok_add (ed_op opr_mul ok_mul (ed_var 4) (ed_var 4)) (ed_op opr_mul ok_mul (ed_var 4) ed_int)) (ed_op opr_mul ok_mul (ed_ix hu1 (ed_var 0) ed_int) ed_int)) ed_int))
    (sis_cons (si_store (ed_op op_mod ok_mod (ed_callTy call_int1 ok_int T.int_ (ld_cons (ed_var 4) ld_nil)) ed_int) (pv 0))
    (sis_one (si_ret (ed_op op_mod ok_mod (ed_callTy call_int1 ok_int T.int_ (ld_cons (ed_op opr_add ok_add (ed_op op_fdiv ok_fdiv (ed_ix hu1 (ed_var 0) ed_int) ed_int) (ed_op opr_mul ok_mul (ed_op op_mod ok_mod (ed_callTy call_int1 ok_int T.int_ (ld_cons (ed_ix hu1 (ed_var 0) ed_int) ld_nil)) ed_int) ed_int)) ld_nil)) (ed_var 1))))))))))
abbrev s_law_mixed : Stmt := topS 52
abbrev n_law_mixed : List Str := ["_law_feed_here", "_law_items", "_law_found", "_law_thing"]
theorem sc_law_mixed : FnScope n_law_mixed ["_law_feed_here", "_law_items"] (defScope s_law_mixed) := ⟨rfl, rfl, rfl, by decide +kernel, rfl, by decide +kernel, by decide +kernel⟩
theorem nd_law_mixed : List.Nodup n_law_mixed := sc_law_mixed.nd
def b_law_mixed : Sts → M (Fl × Sts) :=
  (gSeq (gSet 2 (vNew (fun ρ => (lNil ρ).bind fun xs => M.lift (mkN xs))))
    (gSeq (gFor (iAny (dVar 1)) (bName 3) (gDrop (vMt 2 moInsert (lvCons (vViewT (dCall g_law_draw (lCons (dVar 0) (lCons (dOp addD (dFn lenD (lCons (dVar 2) lNil)) (dC (.int 1))) lNil)))) (lvCons (vMask (dVar 3)) lvNil)))))
    (gFrz 2 (gRet (dVar 2)))))
def g_law_mixed : List D → M D := runD 4 2 b_law_mixed
theorem fo_law_mixed {P : Program} {w : World} {K : PySem.W.Frag} {mg : Str → Option Value} {base : Heap} (T : Txt K w mg) (C_law_draw : Cal P w K mg base 1 "_law_draw" ["_law_feed_here", "_law_upto"] g_law_draw) (f : Addr) (fd : FuncData) (F : Fun K "_law_mixed" "_law_mixed" s_law_mixed f fd) : FnOk P w K mg base (L2.CX P w) 2 f fd ["_law_feed_here", "_law_items"] (DSp K mg g_law_mixed) :=
  fn_d (k := 1) F sc_law_mixed (by decide) fun cdv A outer s H E fa hr => by
    have hu65 : (A.deeper (envOfC "_law_mixed" (defScope s_law_mixed) s.heap.objs.size f cdv)).units + 65 < cLine := by
      have := hr.un
      omega
    have hu64 : (A.deeper (envOfC "_law_mixed" (defScope s_law_mixed) s.heap.objs.size f cdv)).units + 64 < cLine := by omega
    have hu1 : (A.deeper (envOfC "_law_mixed" (defScope s_law_mixed) s.heap.objs.size f cdv)).units + 1 < cLine := by omega
    exact (ssj_cons (sj_set (i := 2) nd_law_mixed (vj_new (nd_lst ld_nil)))
    (ssj_cons (sj_for (passes_of rfl) rfl (ij_any (ed_var 1)) (tj_name (i := 3) nd_law_mixed) (ssj_one (sj_expr (vj_mt (i := 2) PySem.F.slot_list_insert PySem.F.type_list_insert mt_insert ok_insert (lvj_cons (vj_viewT (ed_cal C_law_draw (hr.mono (by decide)) pass_def (ld_cons (ed_var 0) (ld_cons (ed_op opr_add ok_add (ed_callB crl_len ok_len T.len_ (ld_cons (ed_var 2) ld_nil)) ed_int) ld_nil)))) (lvj_cons (vj_mask (ed_var 3)) lvj_nil)) (pv 2)))))
    (ssj_frz 2 (ssj_one (sj_ret (ed_var 2))))))
theorem cal_law_mixed {P : Program} {w : World} {K : PySem.W.Frag} {mg : Str → Option Value} {base : Heap} (T : Txt K w mg) (D0 : Dff K mg "_law_mixed" ["_law_feed_here", "_law_items"] s_law_mixed) (C_law_draw : Cal P w K mg base 1 "_law_draw" ["_law_feed_here", "_law_upto"] g_law_draw) : Cal P w K mg base 2 "_law_mixed" ["_law_feed_here", "_law_items"] g_law_mixed := cal_of D0 (fo_law_mixed T C_law_draw)
abbrev s_law_of : Stmt := topS 51
abbrev n_law_of : List Str := ["_law_feed_here", "_law_items"]
theorem sc_law_of : FnScope n_law_of ["_law_feed_here", "_law_items"] (defScope s_law_of) := ⟨rfl, rfl, rfl, by decide +kernel, rfl, by decide +kernel, by decide +kernel⟩
theorem nd_law_of : List.Nodup n_law_of := sc_law_of.nd
def b_law_of : Sts → M (Fl × Sts) :=
  (gRet (dOp ixD (dVar 1) (dCall g_law_draw (lCons (dVar 0) (lCons (dFn lenD (lCons (dVar 1) lNil)) lNil)))))
def g_law_of : List D → M D := runD 2 2 b_law_of
theorem fo_law_of {P : Program} {w : World} {K : PySem.W.Frag} {mg : Str → Option Value} {base : Heap} (T : Txt K w mg) (C_law_draw : Cal P w K mg base 1 "_law_draw" ["_law_feed_here", "_law_upto"] g_law_draw) (f : Addr) (fd : FuncData) (F : Fun K "_law_of" "_law_of" s_law_of f fd) : FnOk P w K mg base (L2.CX P w) 2 f fd ["_law_feed_here", "_law_items"] (DSp K mg g_law_of) :=
  fn_d (k := 1) F sc_law_of (by decide) fun cdv A outer s H E fa hr => by
    have hu65 : (A.deeper (envOfC "_law_of" (defScope s_law_of) s.heap.objs.size f cdv)).units + 65 < cLine := by
      have := hr.un
      omega
    have hu64 : (A.deeper (envOfC "_law_of" (defScope s_law_of) s.heap.objs.size f cdv)).units + 64 < cLine := by omega
    have hu1 : (A.deeper (envOfC "_law_of" (defScope s_law_of) s.heap.objs.size f cdv)).units + 1 < cLine := by omega
    exact (ssj_one (sj_ret (ed_ix hu1 (ed_var 1) (ed_cal C_law_draw (hr.mono (by decide)) pass_def (ld_cons (ed_var 0) (ld_cons (ed_callB crl_len ok_len T.len_ (ld_cons (ed_var 1) ld_nil)) ld_nil))))))
theorem cal_law_of {P : Program} {w : World} {K : PySem.W.Frag} {mg : Str → Option Value} {base : Heap} (T : Txt K w mg) (D0 : Dff K mg "_law_of" ["_law_feed_here", "_law_items"] s_law_of) (C_law_draw : Cal P w K mg base 1 "_law_draw" ["_law_feed_here", "_law_upto"] g_law_draw) : Cal P w K mg base 2 "_law_of" ["_law_feed_here", "_law_items"] g_law_of := cal_of D0 (fo_law_of T C_law_draw)
abbrev s_law_names : Stmt := topS 55
abbrev n_law_names : List Str := ["_law_feed_here", "_law_many", "_law_stem", "_law_tails", "_law_tail"]
theorem sc_law_names : FnScope n_law_names ["_law_feed_here", "_law_many"] (defScope s_law_names) := ⟨rfl, rfl, rfl, by decide +kernel, rfl, by decide +kernel, by decide +kernel⟩
theorem nd_law_names : List.Nodup n_law_names := sc_law_names.nd
def b_law_names : Sts → M (Fl × Sts) :=
  (gSeq (gAsgT (bTup (bCons (bName 2) (bCons (bName 3) bNil))) (vMask (dFn mkTup (lCons (dCall g_law_of (lCons (dVar 0) (lCons (dFn mkLst (lCons (dC (.str "")) (lCons (dC (.str "q")) (lCons (dC (.str "map")) (lCons (dC (.str "input")) (lCons (dC (.str "stack")) lNil)))))) lNil))) (lCons (dCall g_law_mixed (lCons (dVar 0) (lCons (dNew (fun _ => M.quiet m_law_signs)) lNil))) lNil)))))
    (gRet (dNew (dLc (iAny (dSl (dVar 3) oNo (oSome (dVar 1)))) (bName 4) cYes (dOp addD (dVar 2) (dVar 4))))))
def g_law_names : List D → M D := runD 5 2 b_law_names
theorem fo_law_names {P : Program} {w : World} {K : PySem.W.Frag} {mg : Str → Option Value} {base : Heap} (T : Txt K w mg) (C_law_signs : CalN P w K mg base 1 "_law_signs" m_law_signs) (C_law_mixed : Cal P w K mg base 2 "_law_mixed" ["_law_feed_here", "_law_items"] g_law_mixed) (C_law_of : Cal P w K mg base 2 "_law_of" ["_law_feed_here", "_law_items"] g_law_of) (f : Addr) (fd : FuncData) (F : Fun K "_law_names" "_law_names" s_law_names f fd) : FnOk P w K mg base (L2.CX P w) 3 f fd ["_law_feed_here", "_law_many"] (DSp K mg g_law_names) :=
  fn_d (k := 2) F sc_law_names (by decide) fun cdv A outer s H E fa hr => by
    have hu65 : (A.deeper (envOfC "_law_names" (defScope s_law_names) s.heap.objs.size f cdv)).units + 65 < cLine := by
      have := hr.un
      omega
    have hu64 : (A.deeper (envOfC "_law_names" (defScope s_law_names) s.heap.objs.size f cdv)).units + 64 < cLine := by omega
    have hu1 : (A.deeper (envOfC "_law_names" (defScope s_law_names) s.heap.objs.size f cdv)).units + 1 < cLine := by omega
    exact (ssj_cons (sj_asgT (vj_mask (ed_tup (ld_cons (ed_cal C_law_of (hr.mono (by decide)) pass_def (ld_cons (ed_var 0) (ld_cons (ed_lst (ld_cons ed_str (ld_cons ed_str (ld_cons ed_str (ld_cons ed_str (ld_cons ed_str ld_nil)))))) ld_nil))) (ld_cons (ed_cal C_law_mixed (hr.mono (by decide)) pass_def (ld_cons (ed_var 0) (ld_cons (ND.ed (nd_cal0 C_law_signs (hr.mono (by decide)))) ld_nil))) ld_nil)))) (tj_tup rfl (tsj_cons (tj_name (i := 2) nd_law_names) (tsj_cons (tj_name (i := 3) nd_law_names) tsj_nil)) (bCons_len (bCons_len bNil_len))))
    (ssj_one (sj_ret (ND.ed (nd_lc rfl nd_law_names (ij_any (ed_slice (ed_var 3) oj_none (oj_some (ed_var 1)))) (blkOk_by (own := [("_law_tail", 4)]) (N := n_law_names) (sc := defScope s_law_names) (by decide +kernel)) (by decide) (by decide) (fun _ _ _ _ _ => (tj_name (i := 4) nd_law_names)) (fun _ _ _ _ _ => ptd_nil) (fun _ _ _ _ _ => (ed_op opr_add ok_add (ed_var 2) (ed_var 4))))))))
theorem cal_law_names {P : Program} {w : World} {K : PySem.W.Frag} {mg : Str → Option Value} {base : Heap} (T : Txt K w mg) (D0 : Dff K mg "_law_names" ["_law_feed_here", "_law_many"] s_law_names) (C_law_signs : CalN P w K mg base 1 "_law_signs" m_law_signs) (C_law_mixed : Cal P w K mg base 2 "_law_mixed" ["_law_feed_here", "_law_items"] g_law_mixed) (C_law_of : Cal P w K mg base 2 "_law_of" ["_law_feed_here", "_law_items"] g_law_of) : Cal P w K mg base 3 "_law_names" ["_law_feed_here", "_law_many"] g_law_names := cal_of D0 (fo_law_names T C_law_signs C_law_mixed C_law_of)
abbrev s_law_word : Stmt := topS 56
abbrev n_law_word : List Str := ["_law_feed_here"]
theorem sc_law_word : FnScope n_law_word ["_law_feed_here"] (defScope s_law_word) := ⟨rfl, rfl, rfl, by decide +kernel, rfl, by decide +kernel, by decide +kernel⟩
theorem nd_law_word : List.Nodup n_law_word := sc_law_word.nd
def b_law_word : Sts → M (Fl × Sts) :=
  (gRet (dCall g_law_of (lCons (dVar 0) (lCons (dFn mkLst (lCons (dC (.str "add")) (lCons (dC (.str "f")) (lCons (dC (.str "times")) (lCons (dC (.str "sum")) (lCons (dC (.str "word")) (lCons (dC (.str "g")) lNil))))))) lNil))))
def g_law_word : List D → M D := runD 1 1 b_law_word
theorem fo_law_word {P : Program} {w : World} {K : PySem.W.Frag} {mg : Str → Option Value} {base : Heap} (T : Txt K w mg) (C_law_of : Cal P w K mg base 2 "_law_of" ["_law_feed_here", "_law_items"] g_law_of) (f : Addr) (fd : FuncData) (F : Fun K "_law_word" "_law_word" s_law_word f fd) : FnOk P w K mg base (L2.CX P w) 3 f fd ["_law_feed_here"] (DSp K mg g_law_word) :=
  fn_d (k := 2) F sc_law_word (by decide) fun cdv A outer s H E fa hr => by
    have hu65 : (A.deeper (envOfC "_law_word" (defScope s_law_word) s.heap.objs.size f cdv)).units + 65 < cLine := by
      have := hr.un
      omega
    have hu64 : (A.deeper (envOfC "_law_word" (defScope s_law_word) s.heap.objs.size f cdv)).units + 64 < cLine := by omega
    have hu1 : (A.deeper (envOfC "_law_word" (defScope s_law_word) s.heap.objs.size f cdv)).units + 1 < cLine := by omega
    exact (ssj_one (sj_ret (ed_cal C_law_of (hr.mono (by decide)) pass_def (ld_cons (ed_var 0) (ld_cons (ed_lst (ld_cons ed_str (ld_cons ed_str (ld_cons ed_str (ld_cons ed_str (ld_cons ed_str (ld_cons ed_str ld_nil))))))) ld_nil)))))
theorem cal_law_word {P : Program} {w : World} {K : PySem.W.Frag} {mg : Str → Option Value} {base : Heap} (T : Txt K w mg) (D0 : Dff K mg "_law_word" ["_law_feed_here"] s_law_word) (C_law_of : Cal P w K mg base 2 "_law_of" ["_law_feed_here", "_law_items"] g_law_of) : Cal P w K mg base 3 "_law_word" ["_law_feed_here"] g_law_word := cal_of D0 (fo_law_word T C_law_of)
abbrev s_law_mixed_order : Stmt := topS 61
abbrev n_law_mixed_order : List Str := ["_law_feed_here", "_law_many", "_law_k"]
theorem sc_law_mixed_order : FnScope n_law_mixed_order ["_law_feed_here", "_law_many"] (defScope s_law_mixed_order) := ⟨rfl, rfl, rfl, by decide +kernel, rfl, by decide +kernel, by decide +kernel⟩
theorem nd_law_mixed_order : List.Nodup n_law_mixed_order := sc_law_mixed_order.nd
def b_law_mixed_order : Sts → M (Fl × Sts) :=
  (gRet (dFn tupleD (lCons (dCall g_law_mixed (lCons (dVar 0) (lCons (dNew (dLc (iFn rng1 (lCons (dVar 1) lNil)) (bName 2) cYes (dOp subD (dVar 2) (dVar 1)))) lNil))) lNil)))
def g_law_mixed_order : List D → M D := runD 3 2 b_law_mixed_order
theorem fo_law_mixed_order {P : Program} {w : World} {K : PySem.W.Frag} {mg : Str → Option Value} {base : Heap} (T : Txt K w mg) (C_law_mixed : Cal P w K mg base 2 "_law_mixed" ["_law_feed_here", "_law_items"] g_law_mixed) (f : Addr) (fd : FuncData) (F : Fun K "_law_mixed_order" "_law_mixed_order" s_law_mixed_order f fd) : FnOk P w K mg base (L2.CX P w) 3 f fd ["_law_feed_here", "_law_many"] (DSp K mg g_law_mixed_order) :=
  fn_d (k := 2) F sc_law_mixed_order (by decide) fun cdv A outer s H E fa hr => by
    have hu65 : (A.deeper (envOfC "_law_mixed_order" (defScope s_law_mixed_order) s.heap.objs.size f cdv)).units + 65 < cLine := by
      have := hr.un
      omega
    have hu64 : (A.deeper (envOfC "_law_mixed_order" (defScope s_law_mixed_order) s.heap.objs.size f cdv)).units + 64 < cLine := by omega
    have hu1 : (A.deeper (envOfC "_law_mixed_order" (defScope s_law_mixed_order) s.heap.objs.size f cdv)).units + 1 < cLine := by omega
    exact (ssj_one (sj_ret (ed_callTy call_tuple_of ok_tuple T.tuple_ (ld_cons (ed_cal C_law_mixed (hr.mono (by decide)) pass_def (ld_cons (ed_var 0) (ld_cons (ND.ed (nd_lc rfl nd_law_mixed_order (ij_range1 T.range_ (ld_cons (ed_var 1) ld_nil)) (blkOk_by (own := [("_law_k", 2)]) (N := n_law_mixed_order) (sc := defScope s_law_mixed_order) (by decide +kernel)) (by decide) (by decide) (fun _ _ _ _ _ => (tj_name (i := 2) nd_law_mixed_order)) (fun _ _ _ _ _ => ptd_nil) (fun _ _ _ _ _ => (ed_op op_sub ok_sub (ed_var 2) (ed_var 1))))) ld_nil))) ld_nil))))
theorem cal_law_mixed_order {P : Program} {w : World} {K : PySem.W.Frag} {mg : Str → Option Value} {base : Heap} (T : Txt K w mg) (D0 : Dff K mg "_law_mixed_order" ["_law_feed_here", "_law_many"] s_law_mixed_order) (C_law_mixed : Cal P w K mg base 2 "_law_mixed" ["_law_feed_here", "_law_items"] g_law_mixed) : Cal P w K mg base 3 "_law_mixed_order" ["_law_feed_here", "_law_many"] g_law_mixed_order := cal_of D0 (fo_law_mixed_order T C_law_mixed)
abbrev s_law_front_step : Stmt := topS 60
abbrev n_law_front_step : List Str := ["_law_feed_here", "_law_name", "_law_counts", "_law_kinds", "_law_one", "_law_kind", "_law_word_here", "_law_many", "_law_like", "_law_two", "_law_axis", "_law_kept", "_law_other"]
theorem sc_law_front_step : FnScope n_law_front_step ["_law_feed_here", "_law_name", "_law_counts", "_law_kinds"] (defScope s_law_front_step) := ⟨rfl, rfl, rfl, by decide +kernel, rfl, by decide +kernel, by decide +kernel⟩
theorem nd_law_front_step : List.Nodup n_law_front_step := sc_law_front_step.nd
def b_law_front_step : Sts → M (Fl × Sts) :=
  (gSeq (gPar3 4 5 6 (vMask (dCall g_law_of (lCons (dVar 0) (lCons (dFn listDK (lCons (dVar 2) lNil)) lNil)))) (vMask (dCall g_law_of (lCons (dVar 0) (lCons (dVar 3) lNil)))) (vMask (dCall g_law_word (lCons (dVar 0) lNil))))
    (gSeq (gSet 7 (vMask (dOp ixD (dVar 2) (dVar 4))))
    (gSeq (gSet 8 (vNew (dLc (keysD 2) (bName 12) (cCmp eqD (dOp ixD (dVar 2) (dVar 12)) (dVar 7)) (dVar 12))))
    (gFrz 8 (gSeq (gPar 9 10 (vMask (dCall g_law_of (lCons (dVar 0) (lCons (dVar 8) lNil)))) (vMask (dOp subD (dOp subD (dC (.int 0)) (dC (.int 1))) (dCall g_law_draw (lCons (dVar 0) (lCons (dOp addD (dVar 7) (dC (.int 1))) lNil))))))
    (gSeq (gIf (cAnd (cCmp inD (dVar 5) (dFn mkTup (lCons (dC (.str "insert")) (lCons (dC (.str "stack")) lNil)))) (cCmp ltD (dVar 7) (dC (.int 3)))) (gRet (dFn mkTup (lCons (dFn mkTup (lCons (dVar 1) (lCons (dVar 5) (lCons (dIf (cCmp eqD (dVar 5) (dC (.str "insert"))) (dVar 4) (dFn mkTup (lCons (dVar 4) (lCons (dVar 9) lNil)))) (lCons (dVar 10) lNil))))) (lCons (dOp addD (dVar 7) (dC (.int 1))) lNil)))) gNext)
    (gSeq (gIf (cAnd (cCmp eqD (dVar 5) (dC (.str "reduce"))) (cCmp geD (dVar 10) (dOp subD (dC (.int 0)) (dVar 7)))) (gSeq (gSet 11 (vMask (dOp eqD (dCall g_law_draw (lCons (dVar 0) (lCons (dC (.int 2)) lNil))) (dC (.int 0)))))
    (gRet (dFn mkTup (lCons (dFn mkTup (lCons (dVar 1) (lCons (dVar 5) (lCons (dVar 6) (lCons (dVar 4) (lCons (dVar 10) (lCons (dVar 11) lNil))))))) (lCons (dIf (cTru (dVar 11)) (dVar 7) (dOp subD (dVar 7) (dC (.int 1)))) lNil))))) gNext)
    (gSeq (gIf (cCmp eqD (dVar 5) (dC (.str "transpose"))) (gRet (dFn mkTup (lCons (dFn mkTup (lCons (dVar 1) (lCons (dVar 5) (lCons (dVar 4) (lCons (dCall g_law_mixed_order (lCons (dVar 0) (lCons (dVar 7) lNil))) lNil))))) (lCons (dVar 7) lNil)))) gNext)
    (gSeq (gIf (cAnd (cCmp eqD (dVar 5) (dC (.str "product"))) (cCmp gtD (dVar 7) (dC (.int 1)))) (gRet (dFn mkTup (lCons (dFn mkTup (lCons (dVar 1) (lCons (dVar 5) (lCons (dVar 4) (lCons (dVar 9) lNil))))) (lCons (dVar 7) lNil)))) gNext)
    (gSeq (gIf (cCmp inD (dVar 5) (dFn mkTup (lCons (dC (.str "combine")) (lCons (dC (.str "into")) lNil)))) (gRet (dFn mkTup (lCons (dFn mkTup (lCons (dVar 1) (lCons (dVar 5) (lCons (dVar 6) (lCons (dVar 4) (lCons (dVar 9) lNil)))))) (lCons (dVar 7) lNil)))) gNext)
    (gRet (dFn mkTup (lCons (dFn mkTup (lCons (dVar 1) (lCons (dC (.str "map")) (lCons (dVar 6) (lCons (dVar 4) lNil))))) (lCons (dVar 7) lNil))))))))))))))
def g_law_front_step : List D → M D := runD 13 4 b_law_front_step
theorem fo_law_front_step {P : Program} {w : World} {K : PySem.W.Frag} {mg : Str → Option Value} {base : Heap} (T : Txt K w mg) (C_law_of : Cal P w K mg base 2 "_law_of" ["_law_feed_here", "_law_items"] g_law_of) (C_law_word : Cal P w K mg base 3 "_law_word" ["_law_feed_here"] g_law_word) (C_law_draw : Cal P w K mg base 1 "_law_draw" ["_law_feed_here", "_law_upto"] g_law_draw) (C_law_mixed_order : Cal P w K mg base 3 "_law_mixed_order" ["_law_feed_here", "_law_many"] g_law_mixed_order) (f : Addr) (fd : FuncData) (F : Fun K "_law_front_step" "_law_front_step" s_law_front_step f fd) : FnOk P w K mg base (L2.CX P w) 4 f fd ["_law_feed_here", "_law_name", "_law_counts", "_law_kinds"] (DSp K mg g_law_front_step) :=
  fn_d (k := 3) F sc_law_front_step (by decide) fun cdv A outer s H E fa hr => by
    have hu65 : (A.deeper (envOfC "_law_front_step" (defScope s_law_front_step) s.heap.objs.size f cdv)).units + 65 < cLine := by
      have := hr.un
      omega
    have hu64 : (A.deeper (envOfC "_law_front_step" (defScope s_law_front_step) s.heap.objs.size f cdv)).units + 64 < cLine := by omega
    have hu1 : (A.deeper (envOfC "_law_front_step" (defScope s_law_front_step) s.heap.objs.size f cdv)).units + 1 < cLine := by omega
    exact (ssj_cons (sj_par3 (i := 4) (j := 5) (l := 6) rfl nd_law_front_step (vj_mask (ed_cal C_law_of (hr.mono (by decide)) pass_def (ld_cons (ed_var 0) (ld_cons (ed_callTy (call_list_dKR rfl) ok_listDK T.list_ (ld_cons (ed_var 2) ld_nil)) ld_nil)))) (vj_mask (ed_cal C_law_of (hr.mono (by decide)) pass_def (ld_cons (ed_var 0) (ld_cons (ed_var 3) ld_nil)))) (vj_mask (ed_cal C_law_word (hr.mono (by decide)) pass_def (ld_cons (ed_var 0) ld_nil))))
    (ssj_cons (sj_set (i := 7) nd_law_front_step (vj_mask (ed_ix hu1 (ed_var 2) (ed_var 4))))
    (ssj_cons (sj_setLcKeys (j := 8) rfl nd_law_front_step (pv 2) (blkOk_by (own := [("_law_other", 12)]) (N := n_law_front_step) (sc := defScope s_law_front_step) (by decide +kernel)) (by decide) (by decide) (fun _ _ _ _ _ => (tj_name (i := 12) nd_law_front_step)) (fun _ _ _ _ _ => (ptd_one (td_cmp (opr_eq hu64) ok_eq (ed_ix hu1 (ed_var 2) (ed_var 12)) (ed_var 7)))) (fun _ _ _ _ _ => (ed_var 12)))
    (ssj_frz 8 (ssj_cons (sj_par (i := 9) (j := 10) rfl nd_law_front_step (vj_mask (ed_cal C_law_of (hr.mono (by decide)) pass_def (ld_cons (ed_var 0) (ld_cons (ed_var 8) ld_nil)))) (vj_mask (ed_op op_sub ok_sub (ed_op op_sub ok_sub ed_int ed_int) (ed_cal C_law_draw (hr.mono (by decide)) pass_def (ld_cons (ed_var 0) (ld_cons (ed_op opr_add ok_add (ed_var 7) ed_int) ld_nil))))))
    (ssj_cons (sj_if (TWD.td (twd_and (td_cmp (opr_in hu65) ok_in (ed_var 5) (ed_tup (ld_cons ed_str (ld_cons ed_str ld_nil)))) (twd_and1 (td_cmp op_lt ok_lt (ed_var 7) ed_int)))) (ssj_one (sj_ret (ed_tup (ld_cons (ed_tup (ld_cons (ed_var 1) (ld_cons (ed_var 5) (ld_cons (ed_if (td_cmp (opr_eq hu64) ok_eq (ed_var 5) ed_str) (ed_var 4) (ed_tup (ld_cons (ed_var 4) (ld_cons (ed_var 9) ld_nil)))) (ld_cons (ed_var 10) ld_nil))))) (ld_cons (ed_op opr_add ok_add (ed_var 7) ed_int) ld_nil))))) ssj_nil)
    (ssj_cons (sj_if (TWD.td (twd_and (td_cmp (opr_eq hu64) ok_eq (ed_var 5) ed_str) (twd_and1 (td_cmp op_ge ok_ge (ed_var 10) (ed_op op_sub ok_sub ed_int (ed_var 7)))))) (ssj_cons (sj_set (i := 11) nd_law_front_step (vj_mask (ed_cmp (opr_eq hu64) ok_eq (ed_cal C_law_draw (hr.mono (by decide)) pass_def (ld_cons (ed_var 0) (ld_cons ed_int ld_nil))) ed_int)))
    (ssj_one (sj_ret (ed_tup (ld_cons (ed_tup (ld_cons (ed_var 1) (ld_cons (ed_var 5) (ld_cons (ed_var 6) (ld_cons (ed_var 4) (ld_cons (ed_var 10) (ld_cons (ed_var 11) ld_nil))))))) (ld_cons (ed_if (td_tru (ed_var 11)) (ed_var 7) (ed_op op_sub ok_sub (ed_var 7) ed_int)) ld_nil)))))) ssj_nil)
    (ssj_cons (sj_if (td_cmp (opr_eq hu64) ok_eq (ed_var 5) ed_str) (ssj_one (sj_ret (ed_tup (ld_cons (ed_tup (ld_cons (ed_var 1) (ld_cons (ed_var 5) (ld_cons (ed_var 4) (ld_cons (ed_cal C_law_mixed_order (hr.mono (by decide)) pass_def (ld_cons (ed_var 0) (ld_cons (ed_var 7) ld_nil))) ld_nil))))) (ld_cons (ed_var 7) ld_nil))))) ssj_nil)
    (ssj_cons (sj_if (TWD.td (twd_and (td_cmp (opr_eq hu64) ok_eq (ed_var 5) ed_str) (twd_and1 (td_cmp op_gt ok_gt (ed_var 7) ed_int)))) (ssj_one (sj_ret (ed_tup (ld_cons (ed_tup (ld_cons (ed_var 1) (ld_cons (ed_var 5) (ld_cons (ed_var 4) (ld_cons (ed_var 9) ld_nil))))) (ld_cons (ed_var 7) ld_nil))))) ssj_nil)
    (ssj_cons (sj_if (td_cmp (opr_in hu65) ok_in (ed_var 5) (ed_tup (ld_cons ed_str (ld_cons ed_str ld_nil)))) (ssj_one (sj_ret (ed_tup (ld_cons (ed_tup (ld_cons (ed_var 1) (ld_cons (ed_var 5) (ld_cons (ed_var 6) (ld_cons (ed_var 4) (ld_cons (ed_var 9) ld_nil)))))) (ld_cons (ed_var 7) ld_nil))))) ssj_nil)
    (ssj_one (sj_ret (ed_tup (ld_cons (ed_tup (ld_cons (ed_var 1) (ld_cons ed_str (ld_cons (ed_var 6) (ld_cons (ed_var 4) ld_nil))))) (ld_cons (ed_var 7) ld_nil)))))))))))))))
theorem cal_law_front_step {P : Program} {w : World} {K : PySem.W.Frag} {mg : Str → Option Value} {base : Heap} (T : Txt K w mg) (D0 : Dff K mg "_law_front_step" ["_law_feed_here", "_law_name", "_law_counts", "_law_kinds"] s_law_front_step) (C_law_of : Cal P w K mg base 2 "_law_of" ["_law_feed_here", "_law_items"] g_law_of) (C_law_word : Cal P w K mg base 3 "_law_word" ["_law_feed_here"] g_law_word) (C_law_draw : Cal P w K mg base 1 "_law_draw" ["_law_feed_here", "_law_upto"] g_law_draw) (C_law_mixed_order : Cal P w K mg base 3 "_law_mixed_order" ["_law_feed_here", "_law_many"] g_law_mixed_order) : Cal P w K mg base 4 "_law_front_step" ["_law_feed_here", "_law_name", "_law_counts", "_law_kinds"] g_law_front_step := cal_of D0 (fo_law_front_step T C_law_of C_law_word C_law_draw C_law_mixed_order)
abbrev s_law_front_task : Stmt := topS 62
abbrev n_law_front_task : List Str := ["_law_feed_here", "_law_many", "_law_names_here", "_law_rank", "_law_base", "_law_ins", "_law_counts", "_law_moves", "_law_k", "_law_shape", "_law_kinds", "_law_step", "_law_size", "_law_side"]
theorem sc_law_front_task : FnScope n_law_front_task ["_law_feed_here", "_law_many"] (defScope s_law_front_task) := ⟨rfl, rfl, rfl, by decide +kernel, rfl, by decide +kernel, by decide +kernel⟩
theorem nd_law_front_task : List.Nodup n_law_front_task := sc_law_front_task.nd
def b_law_front_task : Sts → M (Fl × Sts) :=
  (gSeq (gPar 2 3 (vMask (dCall g_law_names (lCons (dVar 0) (lCons (dOp addD (dC (.int 3)) (dVar 1)) lNil)))) (vMask (dCall g_law_draw (lCons (dVar 0) (lCons (dC (.int 3)) lNil)))))
    (gSeq (gSet 4 (vNew (dLc (iFn rng1 (lCons (dVar 3) lNil)) (bName 8) cYes (dCall g_law_of (lCons (dVar 0) (lCons (dFn mkLst (lCons (dC (.str "a")) (lCons (dC (.str "b")) (lCons (dC (.int 1)) (lCons (dC (.str "a")) lNil))))) lNil))))))
    (gFrz 4 (gSeq (gPar3 5 6 7 (vNew (fun ρ => (lNil ρ).bind fun xs => M.lift (mkN xs))) vNewD (vNew (fun ρ => (lNil ρ).bind fun xs => M.lift (mkN xs))))
    (gSeq (gFor (iFn rng1 (lCons (dOp addD (dC (.int 1)) (dCall g_law_draw (lCons (dVar 0) (lCons (dC (.int 3)) lNil)))) lNil)) (bName 8) (gSeq (gSet 9 (vMask (dFn tupleD (lCons (dNew (dLc (iAny (dVar 4)) (bName 13) cYes (dCall g_law_of (lCons (dVar 0) (lCons (dFn mkLst (lCons (dVar 13) (lCons (dVar 13) (lCons (dC (.int 1)) lNil)))) lNil))))) lNil))))
    (gSeq (gDrop (vMt 5 moAppend (lvCons (vMask (dFn mkTup (lCons (dOp ixD (dVar 2) (dVar 8)) (lCons (dVar 9) lNil)))) lvNil)))
    (gStD 6 (vMask (dVar 3)) (vMask (dOp ixD (dVar 2) (dVar 8)))))))
    (gFrz 5 (gSeq (gSet 10 (vMask (dFn mkLst (lCons (dC (.str "map")) (lCons (dC (.str "combine")) (lCons (dC (.str "into")) (lCons (dC (.str "reduce")) (lCons (dC (.str "transpose")) (lCons (dC (.str "product")) (lCons (dC (.str "insert")) (lCons (dC (.str "stack")) (lCons (dC (.str "combine")) (lCons (dC (.str "combine")) lNil)))))))))))))
    (gSeq (gFor (iFn rng1 (lCons (dCall g_law_draw (lCons (dVar 0) (lCons (dOp addD (dVar 1) (dC (.int 1))) lNil))) lNil)) (bName 8) (gSeq (gAsgT (bTup (bCons (bName 11) (bCons (bName 12) bNil))) (vViewT (dCall g_law_front_step (lCons (dVar 0) (lCons (dOp ixD (dVar 2) (dOp addD (dC (.int 3)) (dVar 8))) (lCons (dVar 6) (lCons (dVar 10) lNil)))))))
    (gSeq (gDrop (vMt 7 moAppend (lvCons (vMask (dVar 11)) lvNil)))
    (gStD 6 (vMask (dVar 12)) (vMask (dOp ixD (dVar 11) (dC (.int 0))))))))
    (gFrz 6 (gFrz 7 (gRet (dFn mkTup (lCons (dVar 5) (lCons (dVar 7) lNil))))))))))))))
def g_law_front_task : List D → M D := runD 14 2 b_law_front_task
theorem fo_law_front_task {P : Program} {w : World} {K : PySem.W.Frag} {mg : Str → Option Value} {base : Heap} (T : Txt K w mg) (C_law_names : Cal P w K mg base 3 "_law_names" ["_law_feed_here", "_law_many"] g_law_names) (C_law_draw : Cal P w K mg base 1 "_law_draw" ["_law_feed_here", "_law_upto"] g_law_draw) (C_law_of : Cal P w K mg base 2 "_law_of" ["_law_feed_here", "_law_items"] g_law_of) (C_law_front_step : Cal P w K mg base 4 "_law_front_step" ["_law_feed_here", "_law_name", "_law_counts", "_law_kinds"] g_law_front_step) (f : Addr) (fd : FuncData) (F : Fun K "_law_front_task" "_law_front_task" s_law_front_task f fd) : FnOk P w K mg base (L2.CX P w) 5 f fd ["_law_feed_here", "_law_many"] (DSp K mg g_law_front_task) :=
  fn_d (k := 4) F sc_law_front_task (by decide) fun cdv A outer s H E fa hr => by
    have hu65 : (A.deeper (envOfC "_law_front_task" (defScope s_law_front_task) s.heap.objs.size f cdv)).units + 65 < cLine := by
      have := hr.un
      omega
    have hu64 : (A.deeper (envOfC "_law_front_task" (defScope s_law_front_task) s.heap.objs.size f cdv)).units + 64 < cLine := by omega
    have hu1 : (A.deeper (envOfC "_law_front_task" (defScope s_law_front_task) s.heap.objs.size f cdv)).units + 1 < cLine := by omega
    exact (ssj_cons (sj_par (i := 2) (j := 3) rfl nd_law_front_task (vj_mask (ed_cal C_law_names (hr.mono (by decide)) pass_def (ld_cons (ed_var 0) (ld_cons (ed_op opr_add ok_add ed_int (ed_var 1)) ld_nil)))) (vj_mask (ed_cal C_law_draw (hr.mono (by decide)) pass_def (ld_cons (ed_var 0) (ld_cons ed_int ld_nil)))))
    (ssj_cons (sj_setLc (i := 4) rfl nd_law_front_task (ij_range1 T.range_ (ld_cons (ed_var 3) ld_nil)) (blkOk_by (own := [("_law_k", 8)]) (N := n_law_front_task) (sc := defScope s_law_front_task) (by decide +kernel)) (by decide) (by decide) (fun _ _ _ _ _ => (tj_name (i := 8) nd_law_front_task)) (fun _ _ _ _ _ => ptd_nil) (fun _ _ _ _ _ => (ed_cal C_law_of (hr.mono (by decide)) pass_blk (ld_cons (ed_var 0) (ld_cons (ed_lst (ld_cons ed_str (ld_cons ed_str (ld_cons ed_int (ld_cons ed_str ld_nil))))) ld_nil)))))
    (ssj_frz 4 (ssj_cons (sj_par3 (i := 5) (j := 6) (l := 7) rfl nd_law_front_task (vj_new (nd_lst ld_nil)) vj_dict (vj_new (nd_lst ld_nil)))
    (ssj_cons (sj_for (passes_of rfl) rfl (ij_range1 T.range_ (ld_cons (ed_op opr_add ok_add ed_int (ed_cal C_law_draw (hr.mono (by decide)) pass_def (ld_cons (ed_var 0) (ld_cons ed_int ld_nil)))) ld_nil)) (tj_name (i := 8) nd_law_front_task) (ssj_cons (sj_set (i := 9) nd_law_front_task (vj_mask (ed_callTy call_tuple_of ok_tuple T.tuple_ (ld_cons (ND.ed (nd_lc rfl nd_law_front_task (ij_any (ed_var 4)) (blkOk_by (own := [("_law_side", 13)]) (N := n_law_front_task) (sc := defScope s_law_front_task) (by decide +kernel)) (by decide) (by decide) (fun _ _ _ _ _ => (tj_name (i := 13) nd_law_front_task)) (fun _ _ _ _ _ => ptd_nil) (fun _ _ _ _ _ => (ed_cal C_law_of (hr.mono (by decide)) pass_blk (ld_cons (ed_var 0) (ld_cons (ed_lst (ld_cons (ed_var 13) (ld_cons (ed_var 13) (ld_cons ed_int ld_nil)))) ld_nil)))))) ld_nil))))
    (ssj_cons (sj_expr (vj_mt (i := 5) PySem.F.slot_list_append PySem.F.type_list_append mt_append ok_append (lvj_cons (vj_mask (ed_tup (ld_cons (ed_ix hu1 (ed_var 2) (ed_var 8)) (ld_cons (ed_var 9) ld_nil)))) lvj_nil) (pv 5)))
    (ssj_one (sj_stD (i := 6) hu1 (vj_mask (ed_var 3)) (vj_mask (ed_ix hu1 (ed_var 2) (ed_var 8))) (pv 6))))))
    (ssj_frz 5 (ssj_cons (sj_set (i := 10) nd_law_front_task (vj_mask (ed_lst (ld_cons ed_str (ld_cons ed_str (ld_cons ed_str (ld_cons ed_str (ld_cons ed_str (ld_cons ed_str (ld_cons ed_str (ld_cons ed_str (ld_cons ed_str (ld_cons ed_str ld_nil)))))))))))))
    (ssj_cons (sj_for (passes_of rfl) rfl (ij_range1 T.range_ (ld_cons (ed_cal C_law_draw (hr.mono (by decide)) pass_def (ld_cons (ed_var 0) (ld_cons (ed_op opr_add ok_add (ed_var 1) ed_int) ld_nil))) ld_nil)) (tj_name (i := 8) nd_law_front_task) (ssj_cons (sj_asgT (vj_viewT (ed_cal C_law_front_step (hr.mono (by decide)) pass_def (ld_cons (ed_var 0) (ld_cons (ed_ix hu1 (ed_var 2) (ed_op opr_add ok_add ed_int (ed_var 8))) (ld_cons (ed_var 6) (ld_cons (ed_var 10) ld_nil)))))) (tj_tup rfl (tsj_cons (tj_name (i := 11) nd_law_front_task) (tsj_cons (tj_name (i := 12) nd_law_front_task) tsj_nil)) (bCons_len (bCons_len bNil_len))))
    (ssj_cons (sj_expr (vj_mt (i := 7) PySem.F.slot_list_append PySem.F.type_list_append mt_append ok_append (lvj_cons (vj_mask (ed_var 11)) lvj_nil) (pv 7)))
    (ssj_one (sj_stD (i := 6) hu1 (vj_mask (ed_var 12)) (vj_mask (ed_ix hu1 (ed_var 11) ed_int)) (pv 6))))))
    (ssj_frz 6 (ssj_frz 7 (ssj_one (sj_ret (ed_tup (ld_cons (ed_var 5) (ld_cons (ed_var 7) ld_nil)))))))))))))))
theorem cal_law_front_task {P : Program} {w : World} {K : PySem.W.Frag} {mg : Str → Option Value} {base : Heap} (T : Txt K w mg) (D0 : Dff K mg "_law_front_task" ["_law_feed_here", "_law_many"] s_law_front_task) (C_law_names : Cal P w K mg base 3 "_law_names" ["_law_feed_here", "_law_many"] g_law_names) (C_law_draw : Cal P w K mg base 1 "_law_draw" ["_law_feed_here", "_law_upto"] g_law_draw) (C_law_of : Cal P w K mg base 2 "_law_of" ["_law_feed_here", "_law_items"] g_law_of) (C_law_front_step : Cal P w K mg base 4 "_law_front_step" ["_law_feed_here", "_law_name", "_law_counts", "_law_kinds"] g_law_front_step) : Cal P w K mg base 5 "_law_front_task" ["_law_feed_here", "_law_many"] g_law_front_task := cal_of D0 (fo_law_front_task T C_law_names C_law_draw C_law_of C_law_front_step)
abbrev s_law_order : Stmt := topS 59
abbrev n_law_order : List Str := ["_law_feed_here", "_law_rank", "_law_size", "_law_k"]
theorem sc_law_order : FnScope n_law_order ["_law_feed_here", "_law_rank"] (defScope s_law_order) := ⟨rfl, rfl, rfl, by decide +kernel, rfl, by decide +kernel, by decide +kernel⟩
theorem nd_law_order : List.Nodup n_law_order := sc_law_order.nd
def b_law_order : Sts → M (Fl × Sts) :=
  (gSeq (gSet 2 (vMask (dIf (cCmp gtD (dCall g_law_draw (lCons (dVar 0) (lCons (dC (.int 12)) lNil))) (dC (.int 0))) (dCall g_law_draw (lCons (dVar 0) (lCons (dOp addD (dVar 1) (dC (.int 1))) lNil))) (dCall g_law_draw (lCons (dVar 0) (lCons (dC (.int 5)) lNil))))))
    (gRet (dFn tupleD (lCons (dCall g_law_mixed (lCons (dVar 0) (lCons (dNew (dLc (iFn rng1 (lCons (dVar 2) lNil)) (bName 3) cYes (dOp subD (dVar 3) (dVar 2)))) lNil))) lNil))))
def g_law_order : List D → M D := runD 4 2 b_law_order
theorem fo_law_order {P : Program} {w : World} {K : PySem.W.Frag} {mg : Str → Option Value} {base : Heap} (T : Txt K w mg) (C_law_draw : Cal P w K mg base 1 "_law_draw" ["_law_feed_here", "_law_upto"] g_law_draw) (C_law_mixed : Cal P w K mg base 2 "_law_mixed" ["_law_feed_here", "_law_items"] g_law_mixed) (f : Addr) (fd : FuncData) (F : Fun K "_law_order" "_law_order" s_law_order f fd) : FnOk P w K mg base (L2.CX P w) 3 f fd ["_law_feed_here", "_law_rank"] (DSp K mg g_law_order) :=
  fn_d (k := 2) F sc_law_order (by decide) fun cdv A outer s H E fa hr => by
    have hu65 : (A.deeper (envOfC "_law_order" (defScope s_law_order) s.heap.objs.size f cdv)).units + 65 < cLine := by
      have := hr.un
      omega
    have hu64 : (A.deeper (envOfC "_law_order" (defScope s_law_order) s.heap.objs.size f cdv)).units + 64 < cLine := by omega
    have hu1 : (A.deeper (envOfC "_law_order" (defScope s_law_order) s.heap.objs.size f cdv)).units + 1 < cLine := by omega
    exact (ssj_cons (sj_set (i := 2) nd_law_order (vj_mask (ed_if (td_cmp op_gt ok_gt (ed_cal C_law_draw (hr.mono (by decide)) pass_def (ld_cons (ed_var 0) (ld_cons ed_int ld_nil))) ed_int) (ed_cal C_law_draw (hr.mono (by decide)) pass_def (ld_cons (ed_var 0) (ld_cons (ed_op opr_add ok_add (ed_var 1) ed_int) ld_nil))) (ed_cal C_law_draw (hr.mono (by decide)) pass_def (ld_cons (ed_var 0) (ld_cons ed_int ld_nil))))))
    (ssj_one (sj_ret (ed_callTy call_tuple_of ok_tuple T.tuple_ (ld_cons (ed_cal C_law_mixed (hr.mono (by decide)) pass_def (ld_cons (ed_var 0) (ld_cons (ND.ed (nd_lc rfl nd_law_order (ij_range1 T.range_ (ld_cons (ed_var 2) ld_nil)) (blkOk_by (own := [("_law_k", 3)]) (N := n_law_order) (sc := defScope s_law_order) (by decide +kernel)) (by decide) (by decide) (fun _ _ _ _ _ => (tj_name (i := 3) nd_law_order)) (fun _ _ _ _ _ => ptd_nil) (fun _ _ _ _ _ => (ed_op op_sub ok_sub (ed_var 3) (ed_var 2))))) ld_nil))) ld_nil)))))
theorem cal_law_order {P : Program} {w : World} {K : PySem.W.Frag} {mg : Str → Option Value} {base : Heap} (T : Txt K w mg) (D0 : Dff K mg "_law_order" ["_law_feed_here", "_law_rank"] s_law_order) (C_law_draw : Cal P w K mg base 1 "_law_draw" ["_law_feed_here", "_law_upto"] g_law_draw) (C_law_mixed : Cal P w K mg base 2 "_law_mixed" ["_law_feed_here", "_law_items"] g_law_mixed) : Cal P w K mg base 3 "_law_order" ["_law_feed_here", "_law_rank"] g_law_order := cal_of D0 (fo_law_order T C_law_draw C_law_mixed)
abbrev s_law_operands : Stmt := topS 57
abbrev n_law_operands : List Str := ["_law_step"]
theorem sc_law_operands : FnScope n_law_operands ["_law_step"] (defScope s_law_operands) := ⟨rfl, rfl, rfl, by decide +kernel, rfl, by decide +kernel, by decide +kernel⟩
theorem nd_law_operands : List.Nodup n_law_operands := sc_law_operands.nd
def b_law_operands : Sts → M (Fl × Sts) :=
  (gSeq (gIf (cCmp eqD (dOp ixD (dVar 0) (dC (.int 1))) (dC (.str "stack"))) (gRet (dFn listA (lCons (dOp ixD (dVar 0) (dC (.int 2))) lNil))) gNext)
    (gSeq (gIf (cCmp inD (dOp ixD (dVar 0) (dC (.int 1))) (dFn mkTup (lCons (dC (.str "map")) (lCons (dC (.str "reduce")) lNil)))) (gRet (dFn mkLst (lCons (dOp ixD (dVar 0) (dC (.int 3))) lNil))) gNext)
    (gSeq (gIf (cCmp inD (dOp ixD (dVar 0) (dC (.int 1))) (dFn mkTup (lCons (dC (.str "combine")) (lCons (dC (.str "into")) lNil)))) (gRet (dFn mkLst (lCons (dOp ixD (dVar 0) (dC (.int 3))) (lCons (dOp ixD (dVar 0) (dC (.int 4))) lNil)))) gNext)
    (gRet (dIf (cCmp eqD (dOp ixD (dVar 0) (dC (.int 1))) (dC (.str "product"))) (dFn mkLst (lCons (dOp ixD (dVar 0) (dC (.int 2))) (lCons (dOp ixD (dVar 0) (dC (.int 3))) lNil))) (dFn mkLst (lCons (dOp ixD (dVar 0) (dC (.int 2))) lNil)))))))
def g_law_operands : List D → M D := runD 1 1 b_law_operands
theorem fo_law_operands {P : Program} {w : World} {K : PySem.W.Frag} {mg : Str → Option Value} {base : Heap} (T : Txt K w mg)  (f : Addr) (fd : FuncData) (F : Fun K "_law_operands" "_law_operands" s_law_operands f fd) : FnOk P w K mg base (L2.CX P w) 1 f fd ["_law_step"] (DSp K mg g_law_operands) :=
  fn_d (k := 0) F sc_law_operands (by decide) fun cdv A outer s H E fa hr => by
    have hu65 : (A.deeper (envOfC "_law_operands" (defScope s_law_operands) s.heap.objs.size f cdv)).units + 65 < cLine := by
      have := hr.un
      omega
    have hu64 : (A.deeper (envOfC "_law_operands" (defScope s_law_operands) s.heap.objs.size f cdv)).units + 64 < cLine := by omega
    have hu1 : (A.deeper (envOfC "_law_operands" (defScope s_law_operands) s.heap.objs.size f cdv)).units + 1 < cLine := by omega
    exact (ssj_cons (sj_if (td_cmp (opr_eq hu64) ok_eq (ed_ix hu1 (ed_var 0) ed_int) ed_str) (ssj_one (sj_ret (ed_callTy (call_listA rfl) ok_listA T.list_ (ld_cons (ed_ix hu1 (ed_var 0) ed_int) ld_nil)))) ssj_nil)
    (ssj_cons (sj_if (td_cmp (opr_in hu65) ok_in (ed_ix hu1 (ed_var 0) ed_int) (ed_tup (ld_cons ed_str (ld_cons ed_str ld_nil)))) (ssj_one (sj_ret (ed_lst (ld_cons (ed_ix hu1 (ed_var 0) ed_int) ld_nil)))) ssj_nil)
    (ssj_cons (sj_if (td_cmp (opr_in hu65) ok_in (ed_ix hu1 (ed_var 0) ed_int) (ed_tup (ld_cons ed_str (ld_cons ed_str ld_nil)))) (ssj_one (sj_ret (ed_lst (ld_cons (ed_ix hu1 (ed_var 0) ed_int) (ld_cons (ed_ix hu1 (ed_var 0) ed_int) ld_nil))))) ssj_nil)
    (ssj_one (sj_ret (ed_if (td_cmp (opr_eq hu64) ok_eq (ed_ix hu1 (ed_var 0) ed_int) ed_str) (ed_lst (ld_cons (ed_ix hu1 (ed_var 0) ed_int) (ld_cons (ed_ix hu1 (ed_var 0) ed_int) ld_nil))) (ed_lst (ld_cons (ed_ix hu1 (ed_var 0) ed_int) ld_nil))))))))
theorem cal_law_operands {P : Program} {w : World} {K : PySem.W.Frag} {mg : Str → Option Value} {base : Heap} (T : Txt K w mg) (D0 : Dff K mg "_law_operands" ["_law_step"] s_law_operands)  : Cal P w K mg base 1 "_law_operands" ["_law_step"] g_law_operands := cal_of D0 (fo_law_operands T)
abbrev s_law_counted : Stmt := topS 63
abbrev n_law_counted : List Str := ["_law_model", "_law_counts", "_law_name", "_law_shape", "_law_step", "_law_kind", "_law_rows", "_law_many", "_law_grown", "_law_axis", "_law_lost", "_law_row"]
theorem sc_law_counted : FnScope n_law_counted ["_law_model"] (defScope s_law_counted) := ⟨rfl, rfl, rfl, by decide +kernel, rfl, by decide +kernel, by decide +kernel⟩
theorem nd_law_counted : List.Nodup n_law_counted := sc_law_counted.nd
def b_law_counted : Sts → M (Fl × Sts) :=
  (gSeq (gSet 1 vNewD)
    (gSeq (gFor (iAny (dOp ixD (dVar 0) (dC (.int 0)))) (bTup (bCons (bName 2) (bCons (bName 3) bNil))) (gStD 1 (vMask (dFn lenD (lCons (dVar 3) lNil))) (vMask (dVar 2))))
    (gSeq (gFor (iAny (dOp ixD (dVar 0) (dC (.int 1)))) (bName 4) (gSeq (gPar 5 6 (vMask (dOp ixD (dVar 4) (dC (.int 1)))) (vViewL (dLc (iAny (dCall g_law_operands (lCons (dVar 4) lNil))) (bName 2) cYes (dOp ixD (dVar 1) (dVar 2)))))
    (gSeq (gAsgT (bTup (bCons (bName 7) (bCons (bName 8) bNil))) (vMask (dFn mkTup (lCons (dOp ixD (dVar 6) (dC (.int 0))) (lCons (dFn intFB (lCons (dOp inD (dOp ixD (dVar 4) (dC (.int 1))) (dFn mkTup (lCons (dC (.str "insert")) (lCons (dC (.str "stack")) lNil)))) lNil)) lNil)))))
    (gSeq (gIf (cOr (cCmp inD (dVar 5) (dFn mkTup (lCons (dC (.str "squeeze")) (lCons (dC (.str "select")) (lCons (dC (.str "stretch")) lNil))))) (cTru (dFn anyD (lCons (dNew (dLc (iAny (dVar 6)) (bName 11) cYes (dOp neD (dVar 11) (dVar 7)))) lNil)))) (gRet (dC .non)) gNext)
    (gSeq (gIf (cOr (cAnd (cCmp eqD (dVar 5) (dC (.str "product"))) (cCmp ltD (dVar 7) (dC (.int 2)))) (cAnd (cCmp eqD (dVar 5) (dC (.str "transpose"))) (cCmp gtD (dFn lenD (lCons (dOp ixD (dVar 4) (dC (.int 3))) lNil)) (dVar 7)))) (gRet (dC .non)) gNext)
    (gSeq (gIf (cCmp inD (dVar 5) (dFn mkTup (lCons (dC (.str "reduce")) (lCons (dC (.str "insert")) (lCons (dC (.str "remove")) (lCons (dC (.str "stack")) lNil)))))) (gSeq (gSet 9 (vMask (dIf (cCmp eqD (dVar 5) (dC (.str "reduce"))) (dOp ixD (dVar 4) (dC (.int 4))) (dOp ixD (dVar 4) (dC (.int 3))))))
    (gIf (cOr (cCmp geD (dVar 9) (dC (.int 0))) (cCmp ltD (dVar 9) (dOp subD (dOp subD (dC (.int 0)) (dVar 7)) (dVar 8)))) (gRet (dC .non)) gNext)) gNext)
    (gSeq (gSet 10 (vMask (dFn intFB (lCons (dOr (dOp eqD (dVar 5) (dC (.str "remove"))) (dAnd (dOp eqD (dVar 5) (dC (.str "reduce"))) (dNot (dOp ixD (dVar 4) (dC (.int 5)))))) lNil))))
    (gStD 1 (vMask (dOp subD (dOp addD (dVar 7) (dVar 8)) (dVar 10))) (vMask (dOp ixD (dVar 4) (dC (.int 0))))))))))))
    (gFrz 1 (gRet (dIf (cCmp eqD (dOp ixD (dVar 0) (dC (.int 2))) (dFn mkLst lNil)) (dVar 1) (dC .non)))))))
def g_law_counted : List D → M D := runD 12 1 b_law_counted
theorem fo_law_counted {P : Program} {w : World} {K : PySem.W.Frag} {mg : Str → Option Value} {base : Heap} (T : Txt K w mg) (C_law_operands : Cal P w K mg base 1 "_law_operands" ["_law_step"] g_law_operands) (f : Addr) (fd : FuncData) (F : Fun K "_law_counted" "_law_counted" s_law_counted f fd) : FnOk P w K mg base (L2.CX P w) 2 f fd ["_law_model"] (DSp K mg g_law_counted) :=
  fn_d (k := 1) F sc_law_counted (by decide) fun cdv A outer s H E fa hr => by
    have hu65 : (A.deeper (envOfC "_law_counted" (defScope s_law_counted) s.heap.objs.size f cdv)).units + 65 < cLine := by
      have := hr.un
      omega
    have hu64 : (A.deeper (envOfC "_law_counted" (defScope s_law_counted) s.heap.objs.size f cdv)).units + 64 < cLine := by omega
    have hu1 : (A.deeper (envOfC "_law_counted" (defScope s_law_counted) s.heap.objs.size f cdv)).units + 1 < cLine := by omega
    exact (ssj_cons (sj_set (i := 1) nd_law_counted vj_dict)
    (ssj_cons (sj_for (passes_of rfl) rfl (ij_any (ed_ix hu1 (ed_var 0) ed_int)) (tj_tup rfl (tsj_cons (tj_name (i := 2) nd_law_counted) (tsj_cons (tj_name (i := 3) nd_law_counted) tsj_nil)) (bCons_len (bCons_len bNil_len))) (ssj_one (sj_stD (i := 1) hu1 (vj_mask (ed_callB crl_len ok_len T.len_ (ld_cons (ed_var 3) ld_nil))) (vj_mask (ed_var 2)) (pv 1))))
    (ssj_cons (sj_for (passes_of rfl) rfl (ij_any (ed_ix hu1 (ed_var 0) ed_int)) (tj_name (i := 4) nd_law_counted) (ssj_cons (sj_par (i := 5) (j := 6) rfl nd_law_counted (vj_mask (ed_ix hu1 (ed_var 4) ed_int)) (vj_viewL (nd_lc rfl nd_law_counted (ij_any (ed_cal C_law_operands (hr.mono (by decide)) pass_def (ld_cons (ed_var 4) ld_nil))) (blkOk_by (own := [("_law_name", 2)]) (N := n_law_counted) (sc := defScope s_law_counted) (by decide +kernel)) (by decide) (by decide) (fun _ _ _ _ _ => (tj_name (i := 2) nd_law_counted)) (fun _ _ _ _ _ => ptd_nil) (fun _ _ _ _ _ => (ed_ix hu1 (ed_var 1) (ed_var 2))))))
    (ssj_cons (sj_asgT (vj_mask (ed_tup (ld_cons (ed_ix hu1 (ed_var 6) ed_int) (ld_cons (ed_callTy call_int1 ok_intFB T.int_ (ld_cons (ed_cmp (opr_in hu65) ok_in (ed_ix hu1 (ed_var 4) ed_int) (ed_tup (ld_cons ed_str (ld_cons ed_str ld_nil)))) ld_nil)) ld_nil)))) (tj_tup rfl (tsj_cons (tj_name (i := 7) nd_law_counted) (tsj_cons (tj_name (i := 8) nd_law_counted) tsj_nil)) (bCons_len (bCons_len bNil_len))))
    (ssj_cons (sj_if (TWD.td (twd_or (td_cmp (opr_in hu65) ok_in (ed_var 5) (ed_tup (ld_cons ed_str (ld_cons ed_str (ld_cons ed_str ld_nil))))) (twd_or1 (td_tru (ed_callB (cr_any rfl) ok_any T.any_ (ld_cons (ND.ed (nd_lc rfl nd_law_counted (ij_any (ed_var 6)) (blkOk_by (own := [("_law_row", 11)]) (N := n_law_counted) (sc := defScope s_law_counted) (by decide +kernel)) (by decide) (by decide) (fun _ _ _ _ _ => (tj_name (i := 11) nd_law_counted)) (fun _ _ _ _ _ => ptd_nil) (fun _ _ _ _ _ => (ed_cmp (opr_ne hu64) ok_ne (ed_var 11) (ed_var 7))))) ld_nil)))))) (ssj_one (sj_ret ed_non)) ssj_nil)
    (ssj_cons (sj_if (TWD.td (twd_or (TWD.td (twd_and (td_cmp (opr_eq hu64) ok_eq (ed_var 5) ed_str) (twd_and1 (td_cmp op_lt ok_lt (ed_var 7) ed_int)))) (twd_or1 (TWD.td (twd_and (td_cmp (opr_eq hu64) ok_eq (ed_var 5) ed_str) (twd_and1 (td_cmp op_gt ok_gt (ed_callB crl_len ok_len T.len_ (ld_cons (ed_ix hu1 (ed_var 4) ed_int) ld_nil)) (ed_var 7)))))))) (ssj_one (sj_ret ed_non)) ssj_nil)
    (ssj_cons (sj_if (td_cmp (opr_in hu65) ok_in (ed_var 5) (ed_tup (ld_cons ed_str (ld_cons ed_str (ld_cons ed_str (ld_cons ed_str ld_nil)))))) (ssj_cons (sj_set (i := 9) nd_law_counted (vj_mask (ed_if (td_cmp (opr_eq hu64) ok_eq (ed_var 5) ed_str) (ed_ix hu1 (ed_var 4) ed_int) (ed_ix hu1 (ed_var 4) ed_int))))
    (ssj_one (sj_if (TWD.td (twd_or (td_cmp op_ge ok_ge (ed_var 9) ed_int) (twd_or1 (td_cmp op_lt ok_lt (ed_var 9) (ed_op op_sub ok_sub (ed_op op_sub ok_sub ed_int (ed_var 7)) (ed_var 8)))))) (ssj_one (sj_ret ed_non)) ssj_nil))) ssj_nil)
    (ssj_cons (sj_set (i := 10) nd_law_counted (vj_mask (ed_callTy call_int1 ok_intFB T.int_ (ld_cons (ed_or (ed_cmp (opr_eq hu64) ok_eq (ed_var 5) ed_str) (ed_one (ed_and (ed_cmp (opr_eq hu64) ok_eq (ed_var 5) ed_str) (ed_one (ed_not (ed_ix hu1 (ed_var 4) ed_int)))))) ld_nil))))
    (ssj_one (sj_stD (i := 1) hu1 (vj_mask (ed_op op_sub ok_sub (ed_op opr_add ok_add (ed_var 7) (ed_var 8)) (ed_var 10))) (vj_mask (ed_ix hu1 (ed_var 4) ed_int)) (pv 1))))))))))
    (ssj_frz 1 (ssj_one (sj_ret (ed_if (td_cmp (opr_eq hu64) ok_eq (ed_ix hu1 (ed_var 0) ed_int) (ed_lst ld_nil)) (ed_var 1) ed_non)))))))
theorem cal_law_counted {P : Program} {w : World} {K : PySem.W.Frag} {mg : Str → Option Value} {base : Heap} (T : Txt K w mg) (D0 : Dff K mg "_law_counted" ["_law_model"] s_law_counted) (C_law_operands : Cal P w K mg base 1 "_law_operands" ["_law_step"] g_law_operands) : Cal P w K mg base 2 "_law_counted" ["_law_model"] g_law_counted := cal_of D0 (fo_law_counted T C_law_operands)
abbrev s_is_listed : Stmt := topS 17
abbrev n_is_listed : List Str := ["value"]
theorem sc_is_listed : FnScope n_is_listed ["value"] (defScope s_is_listed) := ⟨rfl, rfl, rfl, by decide +kernel, rfl, by decide +kernel, by decide +kernel⟩
theorem nd_is_listed : List.Nodup n_is_listed := sc_is_listed.nd
def b_is_listed : Sts → M (Fl × Sts) :=
  (gRet (dIsi ["list", "tuple"] (dVar 0)))
def g_is_listed : List D → M D := runD 1 1 b_is_listed
theorem fo_is_listed {P : Program} {w : World} {K : PySem.W.Frag} {mg : Str → Option Value} {base : Heap} (T : Txt K w mg)  (f : Addr) (fd : FuncData) (F : Fun K "is_listed" "is_listed" s_is_listed f fd) : FnOk P w K mg base (L2.CX P w) 1 f fd ["value"] (DSp K mg g_is_listed) :=
  fn_d (k := 0) F sc_is_listed (by decide) fun cdv A outer s H E fa hr => by
    have hu65 : (A.deeper (envOfC "is_listed" (defScope s_is_listed) s.heap.objs.size f cdv)).units + 65 < cLine := by
      have := hr.un
      omega
    have hu64 : (A.deeper (envOfC "is_listed" (defScope s_is_listed) s.heap.objs.size f cdv)).units + 64 < cLine := by omega
    have hu1 : (A.deeper (envOfC "is_listed" (defScope s_is_listed) s.heap.objs.size f cdv)).units + 1 < cLine := by omega
    exact (ssj_one (sj_ret (ed_isi2 (ed_var 0) T.isinstance_ T.list_ T.tuple_)))
theorem cal_is_listed {P : Program} {w : World} {K : PySem.W.Frag} {mg : Str → Option Value} {base : Heap} (T : Txt K w mg) (D0 : Dff K mg "is_listed" ["value"] s_is_listed)  : Cal P w K mg base 1 "is_listed" ["value"] g_is_listed := cal_of D0 (fo_is_listed T)
abbrev s_is_name : Stmt := topS 19
abbrev n_is_name : List Str := ["value", "sign"]
theorem sc_is_name : FnScope n_is_name ["value"] (defScope s_is_name) := ⟨rfl, rfl, rfl, by decide +kernel, rfl, by decide +kernel, by decide +kernel⟩
theorem nd_is_name : List.Nodup n_is_name := sc_is_name.nd
def b_is_name : Sts → M (Fl × Sts) :=
  (gRet (dAnd (dFn isiD (lCons (dVar 0) (lCons (dC (.opq (.ty "str"))) lNil))) (dAnd (dChain leD leD (dC (.int 1)) (dFn lenD (lCons (dVar 0) lNil)) (dC (.int 8))) (dFn allD (lCons (dNew (dLc (iAny (dVar 0)) (bName 1) cYes (dOp inD (dVar 1) (dC (.str "abcdefghijklmnopqrstuvwxyz"))))) lNil)))))
def g_is_name : List D → M D := runD 2 1 b_is_name
theorem fo_is_name {P : Program} {w : World} {K : PySem.W.Frag} {mg : Str → Option Value} {base : Heap} (T : Txt K w mg)  (f : Addr) (fd : FuncData) (F : Fun K "is_name" "is_name" s_is_name f fd) : FnOk P w K mg base (L2.CX P w) 1 f fd ["value"] (DSp K mg g_is_name) :=
  fn_d (k := 0) F sc_is_name (by decide) fun cdv A outer s H E fa hr => by
    have hu65 : (A.deeper (envOfC "is_name" (defScope s_is_name) s.heap.objs.size f cdv)).units + 65 < cLine := by
      have := hr.un
      omega
    have hu64 : (A.deeper (envOfC "is_name" (defScope s_is_name) s.heap.objs.size f cdv)).units + 64 < cLine := by omega
    have hu1 : (A.deeper (envOfC "is_name" (defScope s_is_name) s.heap.objs.size f cdv)).units + 1 < cLine := by omega
    exact (ssj_one (sj_ret (ed_and (ed_callB call_isi ok_isi T.isinstance_ (ld_cons (ed_var 0) (ld_cons (ed_ty "str" T.str_) ld_nil))) (ed_and (ed_chain op_le ok_le op_le ok_le ed_int (ed_callB crl_len ok_len T.len_ (ld_cons (ed_var 0) ld_nil)) (ed_gint T.MOST_NAME_)) (ed_one (ed_callB (cr_all rfl) ok_all T.all_ (ld_cons (ND.ed (nd_lc rfl nd_is_name (ij_any (ed_var 0)) (blkOk_by (own := [("sign", 1)]) (N := n_is_name) (sc := defScope s_is_name) (by decide +kernel)) (by decide) (by decide) (fun _ _ _ _ _ => (tj_name (i := 1) nd_is_name)) (fun _ _ _ _ _ => ptd_nil) (fun _ _ _ _ _ => (ed_cmp (opr_in hu65) ok_in (ed_var 1) (ed_gstr T.SMALL_))))) ld_nil)))))))
theorem cal_is_name {P : Program} {w : World} {K : PySem.W.Frag} {mg : Str → Option Value} {base : Heap} (T : Txt K w mg) (D0 : Dff K mg "is_name" ["value"] s_is_name)  : Cal P w K mg base 1 "is_name" ["value"] g_is_name := cal_of D0 (fo_is_name T)
abbrev s_is_letter : Stmt := topS 18
abbrev n_is_letter : List Str := ["value"]
theorem sc_is_letter : FnScope n_is_letter ["value"] (defScope s_is_letter) := ⟨rfl, rfl, rfl, by decide +kernel, rfl, by decide +kernel, by decide +kernel⟩
theorem nd_is_letter : List.Nodup n_is_letter := sc_is_letter.nd
def b_is_letter : Sts → M (Fl × Sts) :=
  (gRet (dAnd (dFn isiD (lCons (dVar 0) (lCons (dC (.opq (.ty "str"))) lNil))) (dAnd (dOp eqD (dFn lenD (lCons (dVar 0) lNil)) (dC (.int 1))) (dOp inD (dVar 0) (dC (.str "abcdefghijklmnopqrstuvwxyz"))))))
def g_is_letter : List D → M D := runD 1 1 b_is_letter
theorem fo_is_letter {P : Program} {w : World} {K : PySem.W.Frag} {mg : Str → Option Value} {base : Heap} (T : Txt K w mg)  (f : Addr) (fd : FuncData) (F : Fun K "is_letter" "is_letter" s_is_letter f fd) : FnOk P w K mg base (L2.CX P w) 1 f fd ["value"] (DSp K mg g_is_letter) :=
  fn_d (k := 0) F sc_is_letter (by decide) fun cdv A outer s H E fa hr => by
    have hu65 : (A.deeper (envOfC "is_letter" (defScope s_is_letter) s.heap.objs.size f cdv)).units + 65 < cLine := by
      have := hr.un
      omega
    have hu64 : (A.deeper (envOfC "is_letter" (defScope s_is_letter) s.heap.objs.size f cdv)).units + 64 < cLine := by omega
    have hu1 : (A.deeper (envOfC "is_letter" (defScope s_is_letter) s.heap.objs.size f cdv)).units + 1 < cLine := by omega
    exact (ssj_one (sj_ret (ed_and (ed_callB call_isi ok_isi T.isinstance_ (ld_cons (ed_var 0) (ld_cons (ed_ty "str" T.str_) ld_nil))) (ed_and (ed_cmp (opr_eq hu64) ok_eq (ed_callB crl_len ok_len T.len_ (ld_cons (ed_var 0) ld_nil)) ed_int) (ed_one (ed_cmp (opr_in hu65) ok_in (ed_var 0) (ed_gstr T.SMALL_)))))))
theorem cal_is_letter {P : Program} {w : World} {K : PySem.W.Frag} {mg : Str → Option Value} {base : Heap} (T : Txt K w mg) (D0 : Dff K mg "is_letter" ["value"] s_is_letter)  : Cal P w K mg base 1 "is_letter" ["value"] g_is_letter := cal_of D0 (fo_is_letter T)
abbrev s_is_number : Stmt := topS 15
abbrev n_is_number : List Str := ["value"]
theorem sc_is_number : FnScope n_is_number ["value"] (defScope s_is_number) := ⟨rfl, rfl, rfl, by decide +kernel, rfl, by decide +kernel, by decide +kernel⟩
theorem nd_is_number : List.Nodup n_is_number := sc_is_number.nd
def b_is_number : Sts → M (Fl × Sts) :=
  (gRet (dAnd (dFn isiD (lCons (dVar 0) (lCons (dC (.opq (.ty "int"))) lNil))) (dNot (dFn isiD (lCons (dVar 0) (lCons (dC (.opq (.ty "bool"))) lNil))))))
def g_is_number : List D → M D := runD 1 1 b_is_number
theorem fo_is_number {P : Program} {w : World} {K : PySem.W.Frag} {mg : Str → Option Value} {base : Heap} (T : Txt K w mg)  (f : Addr) (fd : FuncData) (F : Fun K "is_number" "is_number" s_is_number f fd) : FnOk P w K mg base (L2.CX P w) 1 f fd ["value"] (DSp K mg g_is_number) :=
  fn_d (k := 0) F sc_is_number (by decide) fun cdv A outer s H E fa hr => by
    have hu65 : (A.deeper (envOfC "is_number" (defScope s_is_number) s.heap.objs.size f cdv)).units + 65 < cLine := by
      have := hr.un
      omega
    have hu64 : (A.deeper (envOfC "is_number" (defScope s_is_number) s.heap.objs.size f cdv)).units + 64 < cLine := by omega
    have hu1 : (A.deeper (envOfC "is_number" (defScope s_is_number) s.heap.objs.size f cdv)).units + 1 < cLine := by omega
    exact (ssj_one (sj_ret (ed_and (ed_callB call_isi ok_isi T.isinstance_ (ld_cons (ed_var 0) (ld_cons (ed_ty "int" T.int_) ld_nil))) (ed_one (ed_not (ed_callB call_isi ok_isi T.isinstance_ (ld_cons (ed_var 0) (ld_cons (ed_ty "bool" T.bool_) ld_nil))))))))
theorem cal_is_number {P : Program} {w : World} {K : PySem.W.Frag} {mg : Str → Option Value} {base : Heap} (T : Txt K w mg) (D0 : Dff K mg "is_number" ["value"] s_is_number)  : Cal P w K mg base 1 "is_number" ["value"] g_is_number := cal_of D0 (fo_is_number T)
abbrev s_is_between : Stmt := topS 16
abbrev n_is_between : List Str := ["value", "least", "most"]
theorem sc_is_between : FnScope n_is_between ["value", "least", "most"] (defScope s_is_between) := ⟨rfl, rfl, rfl, by decide +kernel, rfl, by decide +kernel, by decide +kernel⟩
theorem nd_is_between : List.Nodup n_is_between := sc_is_between.nd
def b_is_between : Sts → M (Fl × Sts) :=
  (gRet (dAnd (dCall g_is_number (lCons (dVar 0) lNil)) (dChain leD leD (dVar 1) (dVar 0) (dVar 2))))
def g_is_between : List D → M D := runD 3 3 b_is_between
theorem fo_is_between {P : Program} {w : World} {K : PySem.W.Frag} {mg : Str → Option Value} {base : Heap} (T : Txt K w mg) (C_is_number : Cal P w K mg base 1 "is_number" ["value"] g_is_number) (f : Addr) (fd : FuncData) (F : Fun K "is_between" "is_between" s_is_between f fd) : FnOk P w K mg base (L2.CX P w) 2 f fd ["value", "least", "most"] (DSp K mg g_is_between) :=
  fn_d (k := 1) F sc_is_between (by decide) fun cdv A outer s H E fa hr => by
    have hu65 : (A.deeper (envOfC "is_between" (defScope s_is_between) s.heap.objs.size f cdv)).units + 65 < cLine := by
      have := hr.un
      omega
    have hu64 : (A.deeper (envOfC "is_between" (defScope s_is_between) s.heap.objs.size f cdv)).units + 64 < cLine := by omega
    have hu1 : (A.deeper (envOfC "is_between" (defScope s_is_between) s.heap.objs.size f cdv)).units + 1 < cLine := by omega
    exact (ssj_one (sj_ret (ed_and (ed_cal C_is_number (hr.mono (by decide)) pass_def (ld_cons (ed_var 0) ld_nil)) (ed_one (ed_chain op_le ok_le op_le ok_le (ed_var 1) (ed_var 0) (ed_var 2))))))
theorem cal_is_between {P : Program} {w : World} {K : PySem.W.Frag} {mg : Str → Option Value} {base : Heap} (T : Txt K w mg) (D0 : Dff K mg "is_between" ["value", "least", "most"] s_is_between) (C_is_number : Cal P w K mg base 1 "is_number" ["value"] g_is_number) : Cal P w K mg base 2 "is_between" ["value", "least", "most"] g_is_between := cal_of D0 (fo_is_between T C_is_number)
abbrev s_is_dimension : Stmt := topS 20
abbrev n_is_dimension : List Str := ["value"]
theorem sc_is_dimension : FnScope n_is_dimension ["value"] (defScope s_is_dimension) := ⟨rfl, rfl, rfl, by decide +kernel, rfl, by decide +kernel, by decide +kernel⟩
theorem nd_is_dimension : List.Nodup n_is_dimension := sc_is_dimension.nd
def b_is_dimension : Sts → M (Fl × Sts) :=
  (gRet (dOr (dCall g_is_letter (lCons (dVar 0) lNil)) (dCall g_is_between (lCons (dVar 0) (lCons (dC (.int 1)) (lCons (dC (.int 3)) lNil))))))
def g_is_dimension : List D → M D := runD 1 1 b_is_dimension
theorem fo_is_dimension {P : Program} {w : World} {K : PySem.W.Frag} {mg : Str → Option Value} {base : Heap} (T : Txt K w mg) (C_is_letter : Cal P w K mg base 1 "is_letter" ["value"] g_is_letter) (C_is_between : Cal P w K mg base 2 "is_between" ["value", "least", "most"] g_is_between) (f : Addr) (fd : FuncData) (F : Fun K "is_dimension" "is_dimension" s_is_dimension f fd) : FnOk P w K mg base (L2.CX P w) 3 f fd ["value"] (DSp K mg g_is_dimension) :=
  fn_d (k := 2) F sc_is_dimension (by decide) fun cdv A outer s H E fa hr => by
    have hu65 : (A.deeper (envOfC "is_dimension" (defScope s_is_dimension) s.heap.objs.size f cdv)).units + 65 < cLine := by
      have := hr.un
      omega
    have hu64 : (A.deeper (envOfC "is_dimension" (defScope s_is_dimension) s.heap.objs.size f cdv)).units + 64 < cLine := by omega
    have hu1 : (A.deeper (envOfC "is_dimension" (defScope s_is_dimension) s.heap.objs.size f cdv)).units + 1 < cLine := by omega
    exact (ssj_one (sj_ret (ed_or (ed_cal C_is_letter (hr.mono (by decide)) pass_def (ld_cons (ed_var 0) ld_nil)) (ed_one (ed_cal C_is_between (hr.mono (by decide)) pass_def (ld_cons (ed_var 0) (ld_cons ed_int (ld_cons (ed_gint T.MOST_NUMBER_) ld_nil))))))))
theorem cal_is_dimension {P : Program} {w : World} {K : PySem.W.Frag} {mg : Str → Option Value} {base : Heap} (T : Txt K w mg) (D0 : Dff K mg "is_dimension" ["value"] s_is_dimension) (C_is_letter : Cal P w K mg base 1 "is_letter" ["value"] g_is_letter) (C_is_between : Cal P w K mg base 2 "is_between" ["value", "least", "most"] g_is_between) : Cal P w K mg base 3 "is_dimension" ["value"] g_is_dimension := cal_of D0 (fo_is_dimension T C_is_letter C_is_between)
abbrev s_is_shape : Stmt := topS 21
abbrev n_is_shape : List Str := ["value", "one"]
theorem sc_is_shape : FnScope n_is_shape ["value"] (defScope s_is_shape) := ⟨rfl, rfl, rfl, by decide +kernel, rfl, by decide +kernel, by decide +kernel⟩
theorem nd_is_shape : List.Nodup n_is_shape := sc_is_shape.nd
def b_is_shape : Sts → M (Fl × Sts) :=
  (gRet (dAnd (dFn isiD (lCons (dVar 0) (lCons (dC (.opq (.ty "tuple"))) lNil))) (dAnd (dOp leD (dFn lenD (lCons (dVar 0) lNil)) (dC (.int 4))) (dFn allD (lCons (dNew (dLc (iAny (dVar 0)) (bName 1) cYes (dCall g_is_dimension (lCons (dVar 1) lNil)))) lNil)))))
def g_is_shape : List D → M D := runD 2 1 b_is_shape
theorem fo_is_shape {P : Program} {w : World} {K : PySem.W.Frag} {mg : Str → Option Value} {base : Heap} (T : Txt K w mg) (C_is_dimension : Cal P w K mg base 3 "is_dimension" ["value"] g_is_dimension) (f : Addr) (fd : FuncData) (F : Fun K "is_shape" "is_shape" s_is_shape f fd) : FnOk P w K mg base (L2.CX P w) 4 f fd ["value"] (DSp K mg g_is_shape) :=
  fn_d (k := 3) F sc_is_shape (by decide) fun cdv A outer s H E fa hr => by
    have hu65 : (A.deeper (envOfC "is_shape" (defScope s_is_shape) s.heap.objs.size f cdv)).units + 65 < cLine := by
      have := hr.un
      omega
    have hu64 : (A.deeper (envOfC "is_shape" (defScope s_is_shape) s.heap.objs.size f cdv)).units + 64 < cLine := by omega
    have hu1 : (A.deeper (envOfC "is_shape" (defScope s_is_shape) s.heap.objs.size f cdv)).units + 1 < cLine := by omega
    exact (ssj_one (sj_ret (ed_and (ed_callB call_isi ok_isi T.isinstance_ (ld_cons (ed_var 0) (ld_cons (ed_ty "tuple" T.tuple_) ld_nil))) (ed_and (ed_cmp op_le ok_le (ed_callB crl_len ok_len T.len_ (ld_cons (ed_var 0) ld_nil)) (ed_gint T.MOST_DIMENSIONS_)) (ed_one (ed_callB (cr_all rfl) ok_all T.all_ (ld_cons (ND.ed (nd_lc rfl nd_is_shape (ij_any (ed_var 0)) (blkOk_by (own := [("one", 1)]) (N := n_is_shape) (sc := defScope s_is_shape) (by decide +kernel)) (by decide) (by decide) (fun _ _ _ _ _ => (tj_name (i := 1) nd_is_shape)) (fun _ _ _ _ _ => ptd_nil) (fun _ _ _ _ _ => (ed_cal C_is_dimension (hr.mono (by decide)) pass_blk (ld_cons (ed_var 1) ld_nil))))) ld_nil)))))))
theorem cal_is_shape {P : Program} {w : World} {K : PySem.W.Frag} {mg : Str → Option Value} {base : Heap} (T : Txt K w mg) (D0 : Dff K mg "is_shape" ["value"] s_is_shape) (C_is_dimension : Cal P w K mg base 3 "is_dimension" ["value"] g_is_dimension) : Cal P w K mg base 4 "is_shape" ["value"] g_is_shape := cal_of D0 (fo_is_shape T C_is_dimension)
abbrev s_check_inputs : Stmt := topS 40
abbrev n_check_inputs : List Str := ["inputs", "known", "at", "pair"]
theorem sc_check_inputs : FnScope n_check_inputs ["inputs"] (defScope s_check_inputs) := ⟨rfl, rfl, rfl, by decide +kernel, rfl, by decide +kernel, by decide +kernel⟩
theorem nd_check_inputs : List.Nodup n_check_inputs := sc_check_inputs.nd
def b_check_inputs : Sts → M (Fl × Sts) :=
  (gSeq (gIf (cOr (cNot (cTru (dCall g_is_listed (lCons (dVar 0) lNil)))) (cNot (cChain leD leD (dC (.int 1)) (dFn lenD (lCons (dVar 0) lNil)) (dC (.int 4))))) gBad gNext)
    (gSeq (gSet 1 (vNew (fun ρ => (lNil ρ).bind fun xs => M.lift (mkN xs))))
    (gFor (iFn enm (lCons (dVar 0) lNil)) (bTup (bCons (bName 2) (bCons (bName 3) bNil))) (gSeq (gIf (cOr (cNot (cTru (dFn isiD (lCons (dVar 3) (lCons (dC (.opq (.ty "tuple"))) lNil))))) (cOr (cCmp neD (dFn lenD (lCons (dVar 3) lNil)) (dC (.int 2))) (cOr (cNot (cTru (dCall g_is_name (lCons (dOp ixD (dVar 3) (dC (.int 0))) lNil)))) (cNot (cTru (dCall g_is_shape (lCons (dOp ixD (dVar 3) (dC (.int 1))) lNil))))))) gBad gNext)
    (gSeq (gIf (cCmp inD (dOp ixD (dVar 3) (dC (.int 0))) (dVar 1)) gBad gNext)
    (gDrop (vMt 1 moAppend (lvCons (vMask (dOp ixD (dVar 3) (dC (.int 0)))) lvNil))))))))
def g_check_inputs : List D → M D := runD 4 1 b_check_inputs
theorem fo_check_inputs {P : Program} {w : World} {K : PySem.W.Frag} {mg : Str → Option Value} {base : Heap} (T : Txt K w mg) (C_is_listed : Cal P w K mg base 1 "is_listed" ["value"] g_is_listed) (C_is_name : Cal P w K mg base 1 "is_name" ["value"] g_is_name) (C_is_shape : Cal P w K mg base 4 "is_shape" ["value"] g_is_shape) (f : Addr) (fd : FuncData) (F : Fun K "check_inputs" "check_inputs" s_check_inputs f fd) : FnOk P w K mg base (L2.CX P w) 5 f fd ["inputs"] (DSp K mg g_check_inputs) :=
  fn_d (k := 4) F sc_check_inputs (by decide) fun cdv A outer s H E fa hr => by
    have hu65 : (A.deeper (envOfC "check_inputs" (defScope s_check_inputs) s.heap.objs.size f cdv)).units + 65 < cLine := by
      have := hr.un
      omega
    have hu64 : (A.deeper (envOfC "check_inputs" (defScope s_check_inputs) s.heap.objs.size f cdv)).units + 64 < cLine := by omega
    have hu1 : (A.deeper (envOfC "check_inputs" (defScope s_check_inputs) s.heap.objs.size f cdv)).units + 1 < cLine := by omega
    exact (ssj_cons (sj_if (TWD.td (twd_or (td_not (td_tru (ed_cal C_is_listed (hr.mono (by decide)) pass_def (ld_cons (ed_var 0) ld_nil)))) (twd_or1 (td_not (td_chain op_le ok_le op_le ok_le ed_int (ed_callB crl_len ok_len T.len_ (ld_cons (ed_var 0) ld_nil)) (ed_gint T.MOST_INPUTS_)))))) (ssj_one sj_never) ssj_nil)
    (ssj_cons (sj_set (i := 1) nd_check_inputs (vj_new (nd_lst ld_nil)))
    (ssj_one (sj_for (passes_of rfl) rfl (ij_enum T.enumerate_ (ld_cons (ed_var 0) ld_nil)) (tj_tup rfl (tsj_cons (tj_name (i := 2) nd_check_inputs) (tsj_cons (tj_name (i := 3) nd_check_inputs) tsj_nil)) (bCons_len (bCons_len bNil_len))) (ssj_cons (sj_if (TWD.td (twd_or (td_not (td_tru (ed_callB call_isi ok_isi T.isinstance_ (ld_cons (ed_var 3) (ld_cons (ed_ty "tuple" T.tuple_) ld_nil))))) (twd_or (td_cmp (opr_ne hu64) ok_ne (ed_callB crl_len ok_len T.len_ (ld_cons (ed_var 3) ld_nil)) ed_int) (twd_or (td_not (td_tru (ed_cal C_is_name (hr.mono (by decide)) pass_def (ld_cons (ed_ix hu1 (ed_var 3) ed_int) ld_nil)))) (twd_or1 (td_not (td_tru (ed_cal C_is_shape (hr.mono (by decide)) pass_def (ld_cons (ed_ix hu1 (ed_var 3) ed_int) ld_nil))))))))) (ssj_one sj_never) ssj_nil)
    (ssj_cons (sj_if (td_cmp (opr_in hu65) ok_in (ed_ix hu1 (ed_var 3) ed_int) (ed_var 1)) (ssj_one sj_never) ssj_nil)
    (ssj_one (sj_expr (vj_mt (i := 1) PySem.F.slot_list_append PySem.F.type_list_append mt_append ok_append (lvj_cons (vj_mask (ed_ix hu1 (ed_var 3) ed_int)) lvj_nil) (pv 1))))))))))
theorem cal_check_inputs {P : Program} {w : World} {K : PySem.W.Frag} {mg : Str → Option Value} {base : Heap} (T : Txt K w mg) (D0 : Dff K mg "check_inputs" ["inputs"] s_check_inputs) (C_is_listed : Cal P w K mg base 1 "is_listed" ["value"] g_is_listed) (C_is_name : Cal P w K mg base 1 "is_name" ["value"] g_is_name) (C_is_shape : Cal P w K mg base 4 "is_shape" ["value"] g_is_shape) : Cal P w K mg base 5 "check_inputs" ["inputs"] g_check_inputs := cal_of D0 (fo_check_inputs T C_is_listed C_is_name C_is_shape)
abbrev s_is_check : Stmt := topS 35
abbrev n_is_check : List Str := ["value"]
theorem sc_is_check : FnScope n_is_check ["value"] (defScope s_is_check) := ⟨rfl, rfl, rfl, by decide +kernel, rfl, by decide +kernel, by decide +kernel⟩
theorem nd_is_check : List.Nodup n_is_check := sc_is_check.nd
def b_is_check : Sts → M (Fl × Sts) :=
  (gSeq (gIf (cOr (cNot (cTru (dFn isiD (lCons (dVar 0) (lCons (dC (.opq (.ty "tuple"))) lNil))))) (cOr (cCmp neD (dFn lenD (lCons (dVar 0) lNil)) (dC (.int 3))) (cNot (cTru (dFn isiD (lCons (dOp ixD (dVar 0) (dC (.int 0))) (lCons (dC (.opq (.ty "str"))) lNil))))))) (gRet (dC (.bl false))) gNext)
    (gSeq (gIf (cOr (cCmp ninD (dOp ixD (dVar 0) (dC (.int 0))) (dC (.tup [.str "equal", .str "unequal"]))) (cNot (cTru (dCall g_is_letter (lCons (dOp ixD (dVar 0) (dC (.int 1))) lNil))))) (gRet (dC (.bl false))) gNext)
    (gRet (dOr (dCall g_is_between (lCons (dOp ixD (dVar 0) (dC (.int 2))) (lCons (dC (.int 1)) (lCons (dC (.int 3)) lNil)))) (dAnd (dCall g_is_letter (lCons (dOp ixD (dVar 0) (dC (.int 2))) lNil)) (dOp neD (dOp ixD (dVar 0) (dC (.int 2))) (dOp ixD (dVar 0) (dC (.int 1)))))))))
def g_is_check : List D → M D := runD 1 1 b_is_check
theorem fo_is_check {P : Program} {w : World} {K : PySem.W.Frag} {mg : Str → Option Value} {base : Heap} (T : Txt K w mg) (C_is_letter : Cal P w K mg base 1 "is_letter" ["value"] g_is_letter) (C_is_between : Cal P w K mg base 2 "is_between" ["value", "least", "most"] g_is_between) (f : Addr) (fd : FuncData) (F : Fun K "is_check" "is_check" s_is_check f fd) : FnOk P w K mg base (L2.CX P w) 3 f fd ["value"] (DSp K mg g_is_check) :=
  fn_d (k := 2) F sc_is_check (by decide) fun cdv A outer s H E fa hr => by
    have hu65 : (A.deeper (envOfC "is_check" (defScope s_is_check) s.heap.objs.size f cdv)).units + 65 < cLine := by
      have := hr.un
      omega
    have hu64 : (A.deeper (envOfC "is_check" (defScope s_is_check) s.heap.objs.size f cdv)).units + 64 < cLine := by omega
    have hu1 : (A.deeper (envOfC "is_check" (defScope s_is_check) s.heap.objs.size f cdv)).units + 1 < cLine := by omega
    exact (ssj_cons (sj_if (TWD.td (twd_or (td_not (td_tru (ed_callB call_isi ok_isi T.isinstance_ (ld_cons (ed_var 0) (ld_cons (ed_ty "tuple" T.tuple_) ld_nil))))) (twd_or (td_cmp (opr_ne hu64) ok_ne (ed_callB crl_len ok_len T.len_ (ld_cons (ed_var 0) ld_nil)) ed_int) (twd_or1 (td_not (td_tru (ed_callB call_isi ok_isi T.isinstance_ (ld_cons (ed_ix hu1 (ed_var 0) ed_int) (ld_cons (ed_ty "str" T.str_) ld_nil))))))))) (ssj_one (sj_ret ed_bl)) ssj_nil)
    (ssj_cons (sj_if (TWD.td (twd_or (td_cmp (opr_nin hu65) ok_nin (ed_ix hu1 (ed_var 0) ed_int) (ed_tupC T.RELATIONS_)) (twd_or1 (td_not (td_tru (ed_cal C_is_letter (hr.mono (by decide)) pass_def (ld_cons (ed_ix hu1 (ed_var 0) ed_int) ld_nil))))))) (ssj_one (sj_ret ed_bl)) ssj_nil)
    (ssj_one (sj_ret (ed_or (ed_cal C_is_between (hr.mono (by decide)) pass_def (ld_cons (ed_ix hu1 (ed_var 0) ed_int) (ld_cons ed_int (ld_cons (ed_gint T.MOST_CHECKED_) ld_nil)))) (ed_one (ed_and (ed_cal C_is_letter (hr.mono (by decide)) pass_def (ld_cons (ed_ix hu1 (ed_var 0) ed_int) ld_nil)) (ed_one (ed_cmp (opr_ne hu64) ok_ne (ed_ix hu1 (ed_var 0) ed_int) (ed_ix hu1 (ed_var 0) ed_int))))))))))
theorem cal_is_check {P : Program} {w : World} {K : PySem.W.Frag} {mg : Str → Option Value} {base : Heap} (T : Txt K w mg) (D0 : Dff K mg "is_check" ["value"] s_is_check) (C_is_letter : Cal P w K mg base 1 "is_letter" ["value"] g_is_letter) (C_is_between : Cal P w K mg base 2 "is_between" ["value", "least", "most"] g_is_between) : Cal P w K mg base 3 "is_check" ["value"] g_is_check := cal_of D0 (fo_is_check T C_is_letter C_is_between)
abbrev s_check_checks : Stmt := topS 41
abbrev n_check_checks : List Str := ["checks", "at", "one"]
theorem sc_check_checks : FnScope n_check_checks ["checks"] (defScope s_check_checks) := ⟨rfl, rfl, rfl, by decide +kernel, rfl, by decide +kernel, by decide +kernel⟩
theorem nd_check_checks : List.Nodup n_check_checks := sc_check_checks.nd
def b_check_checks : Sts → M (Fl × Sts) :=
  (gSeq (gIf (cOr (cNot (cTru (dCall g_is_listed (lCons (dVar 0) lNil)))) (cCmp gtD (dFn lenD (lCons (dVar 0) lNil)) (dC (.int 8)))) gBad gNext)
    (gFor (iFn enm (lCons (dVar 0) lNil)) (bTup (bCons (bName 1) (bCons (bName 2) bNil))) (gIf (cNot (cTru (dCall g_is_check (lCons (dVar 2) lNil)))) gBad gNext)))
def g_check_checks : List D → M D := runD 3 1 b_check_checks
theorem fo_check_checks {P : Program} {w : World} {K : PySem.W.Frag} {mg : Str → Option Value} {base : Heap} (T : Txt K w mg) (C_is_listed : Cal P w K mg base 1 "is_listed" ["value"] g_is_listed) (C_is_check : Cal P w K mg base 3 "is_check" ["value"] g_is_check) (f : Addr) (fd : FuncData) (F : Fun K "check_checks" "check_checks" s_check_checks f fd) : FnOk P w K mg base (L2.CX P w) 4 f fd ["checks"] (DSp K mg g_check_checks) :=
  fn_d (k := 3) F sc_check_checks (by decide) fun cdv A outer s H E fa hr => by
    have hu65 : (A.deeper (envOfC "check_checks" (defScope s_check_checks) s.heap.objs.size f cdv)).units + 65 < cLine := by
      have := hr.un
      omega
    have hu64 : (A.deeper (envOfC "check_checks" (defScope s_check_checks) s.heap.objs.size f cdv)).units + 64 < cLine := by omega
    have hu1 : (A.deeper (envOfC "check_checks" (defScope s_check_checks) s.heap.objs.size f cdv)).units + 1 < cLine := by omega
    exact (ssj_cons (sj_if (TWD.td (twd_or (td_not (td_tru (ed_cal C_is_listed (hr.mono (by decide)) pass_def (ld_cons (ed_var 0) ld_nil)))) (twd_or1 (td_cmp op_gt ok_gt (ed_callB crl_len ok_len T.len_ (ld_cons (ed_var 0) ld_nil)) (ed_gint T.MOST_CHECKS_))))) (ssj_one sj_never) ssj_nil)
    (ssj_one (sj_for (passes_of rfl) rfl (ij_enum T.enumerate_ (ld_cons (ed_var 0) ld_nil)) (tj_tup rfl (tsj_cons (tj_name (i := 1) nd_check_checks) (tsj_cons (tj_name (i := 2) nd_check_checks) tsj_nil)) (bCons_len (bCons_len bNil_len))) (ssj_one (sj_if (td_not (td_tru (ed_cal C_is_check (hr.mono (by decide)) pass_def (ld_cons (ed_var 2) ld_nil)))) (ssj_one sj_never) ssj_nil)))))
theorem cal_check_checks {P : Program} {w : World} {K : PySem.W.Frag} {mg : Str → Option Value} {base : Heap} (T : Txt K w mg) (D0 : Dff K mg "check_checks" ["checks"] s_check_checks) (C_is_listed : Cal P w K mg base 1 "is_listed" ["value"] g_is_listed) (C_is_check : Cal P w K mg base 3 "is_check" ["value"] g_is_check) : Cal P w K mg base 4 "check_checks" ["checks"] g_check_checks := cal_of D0 (fo_check_checks T C_is_listed C_is_check)
abbrev s_operands : Stmt := topS 32
abbrev n_operands : List Str := ["step", "kind"]
theorem sc_operands : FnScope n_operands ["step"] (defScope s_operands) := ⟨rfl, rfl, rfl, by decide +kernel, rfl, by decide +kernel, by decide +kernel⟩
theorem nd_operands : List.Nodup n_operands := sc_operands.nd
def b_operands : Sts → M (Fl × Sts) :=
  (gSeq (gSet 1 (vMask (dOp ixD (dVar 0) (dC (.int 1)))))
    (gSeq (gIf (cCmp eqD (dVar 1) (dC (.str "stack"))) (gRet (dFn listA (lCons (dOp ixD (dVar 0) (dC (.int 2))) lNil))) gNext)
    (gSeq (gIf (cCmp inD (dVar 1) (dC (.tup [.str "map", .str "combine", .str "into", .str "reduce"]))) (gRet (dIf (cCmp inD (dVar 1) (dFn mkTup (lCons (dC (.str "combine")) (lCons (dC (.str "into")) lNil)))) (dFn mkLst (lCons (dOp ixD (dVar 0) (dC (.int 3))) (lCons (dOp ixD (dVar 0) (dC (.int 4))) lNil))) (dFn mkLst (lCons (dOp ixD (dVar 0) (dC (.int 3))) lNil)))) gNext)
    (gRet (dIf (cCmp eqD (dVar 1) (dC (.str "product"))) (dFn mkLst (lCons (dOp ixD (dVar 0) (dC (.int 2))) (lCons (dOp ixD (dVar 0) (dC (.int 3))) lNil))) (dFn mkLst (lCons (dOp ixD (dVar 0) (dC (.int 2))) lNil)))))))
def g_operands : List D → M D := runD 2 1 b_operands
theorem fo_operands {P : Program} {w : World} {K : PySem.W.Frag} {mg : Str → Option Value} {base : Heap} (T : Txt K w mg)  (f : Addr) (fd : FuncData) (F : Fun K "operands" "operands" s_operands f fd) : FnOk P w K mg base (L2.CX P w) 1 f fd ["step"] (DSp K mg g_operands) :=
  fn_d (k := 0) F sc_operands (by decide) fun cdv A outer s H E fa hr => by
    have hu65 : (A.deeper (envOfC "operands" (defScope s_operands) s.heap.objs.size f cdv)).units + 65 < cLine := by
      have := hr.un
      omega
    have hu64 : (A.deeper (envOfC "operands" (defScope s_operands) s.heap.objs.size f cdv)).units + 64 < cLine := by omega
    have hu1 : (A.deeper (envOfC "operands" (defScope s_operands) s.heap.objs.size f cdv)).units + 1 < cLine := by omega
    exact (ssj_cons (sj_set (i := 1) nd_operands (vj_mask (ed_ix hu1 (ed_var 0) ed_int)))
    (ssj_cons (sj_if (td_cmp (opr_eq hu64) ok_eq (ed_var 1) ed_str) (ssj_one (sj_ret (ed_callTy (call_listA rfl) ok_listA T.list_ (ld_cons (ed_ix hu1 (ed_var 0) ed_int) ld_nil)))) ssj_nil)
    (ssj_cons (sj_if (td_cmp (opr_in hu65) ok_in (ed_var 1) (ed_tupC T.WORDED_)) (ssj_one (sj_ret (ed_if (td_cmp (opr_in hu65) ok_in (ed_var 1) (ed_tup (ld_cons ed_str (ld_cons ed_str ld_nil)))) (ed_lst (ld_cons (ed_ix hu1 (ed_var 0) ed_int) (ld_cons (ed_ix hu1 (ed_var 0) ed_int) ld_nil))) (ed_lst (ld_cons (ed_ix hu1 (ed_var 0) ed_int) ld_nil))))) ssj_nil)
    (ssj_one (sj_ret (ed_if (td_cmp (opr_eq hu64) ok_eq (ed_var 1) ed_str) (ed_lst (ld_cons (ed_ix hu1 (ed_var 0) ed_int) (ld_cons (ed_ix hu1 (ed_var 0) ed_int) ld_nil))) (ed_lst (ld_cons (ed_ix hu1 (ed_var 0) ed_int) ld_nil))))))))
theorem cal_operands {P : Program} {w : World} {K : PySem.W.Frag} {mg : Str → Option Value} {base : Heap} (T : Txt K w mg) (D0 : Dff K mg "operands" ["step"] s_operands)  : Cal P w K mg base 1 "operands" ["step"] g_operands := cal_of D0 (fo_operands T)
abbrev s_is_axis : Stmt := topS 30
abbrev n_is_axis : List Str := ["value"]
theorem sc_is_axis : FnScope n_is_axis ["value"] (defScope s_is_axis) := ⟨rfl, rfl, rfl, by decide +kernel, rfl, by decide +kernel, by decide +kernel⟩
theorem nd_is_axis : List.Nodup n_is_axis := sc_is_axis.nd
def b_is_axis : Sts → M (Fl × Sts) :=
  (gRet (dCall g_is_between (lCons (dVar 0) (lCons (dUn negD (dC (.int 4))) (lCons (dC (.int 3)) lNil)))))
def g_is_axis : List D → M D := runD 1 1 b_is_axis
theorem fo_is_axis {P : Program} {w : World} {K : PySem.W.Frag} {mg : Str → Option Value} {base : Heap} (T : Txt K w mg) (C_is_between : Cal P w K mg base 2 "is_between" ["value", "least", "most"] g_is_between) (f : Addr) (fd : FuncData) (F : Fun K "is_axis" "is_axis" s_is_axis f fd) : FnOk P w K mg base (L2.CX P w) 3 f fd ["value"] (DSp K mg g_is_axis) :=
  fn_d (k := 2) F sc_is_axis (by decide) fun cdv A outer s H E fa hr => by
    have hu65 : (A.deeper (envOfC "is_axis" (defScope s_is_axis) s.heap.objs.size f cdv)).units + 65 < cLine := by
      have := hr.un
      omega
    have hu64 : (A.deeper (envOfC "is_axis" (defScope s_is_axis) s.heap.objs.size f cdv)).units + 64 < cLine := by omega
    have hu1 : (A.deeper (envOfC "is_axis" (defScope s_is_axis) s.heap.objs.size f cdv)).units + 1 < cLine := by omega
    exact (ssj_one (sj_ret (ed_cal C_is_between (hr.mono (by decide)) pass_def (ld_cons (ed_var 0) (ld_cons (ed_un un_neg ok_neg ed_int) (ld_cons ed_int ld_nil))))))
theorem cal_is_axis {P : Program} {w : World} {K : PySem.W.Frag} {mg : Str → Option Value} {base : Heap} (T : Txt K w mg) (D0 : Dff K mg "is_axis" ["value"] s_is_axis) (C_is_between : Cal P w K mg base 2 "is_between" ["value", "least", "most"] g_is_between) : Cal P w K mg base 3 "is_axis" ["value"] g_is_axis := cal_of D0 (fo_is_axis T C_is_between)
abbrev s_is_order : Stmt := topS 31
abbrev n_is_order : List Str := ["value", "one"]
theorem sc_is_order : FnScope n_is_order ["value"] (defScope s_is_order) := ⟨rfl, rfl, rfl, by decide +kernel, rfl, by decide +kernel, by decide +kernel⟩
theorem nd_is_order : List.Nodup n_is_order := sc_is_order.nd
def b_is_order : Sts → M (Fl × Sts) :=
  (gSeq (gIf (cOr (cNot (cTru (dFn isiD (lCons (dVar 0) (lCons (dC (.opq (.ty "tuple"))) lNil))))) (cNot (cTru (dFn allD (lCons (dNew (dLc (iAny (dVar 0)) (bName 1) cYes (dCall g_is_between (lCons (dVar 1) (lCons (dUn negD (dC (.int 4))) (lCons (dUn negD (dC (.int 1))) lNil)))))) lNil))))) (gRet (dC (.bl false))) gNext)
    (gRet (dOp eqD (dFn sortedTD (lCons (dVar 0) lNil)) (dOp rgD2 (dUn negD (dFn lenD (lCons (dVar 0) lNil))) (dC (.int 0))))))
def g_is_order : List D → M D := runD 2 1 b_is_order
theorem fo_is_order {P : Program} {w : World} {K : PySem.W.Frag} {mg : Str → Option Value} {base : Heap} (T : Txt K w mg) (C_is_between : Cal P w K mg base 2 "is_between" ["value", "least", "most"] g_is_between) (f : Addr) (fd : FuncData) (F : Fun K "is_order" "is_order" s_is_order f fd) : FnOk P w K mg base (L2.CX P w) 3 f fd ["value"] (DSp K mg g_is_order) :=
  fn_d (k := 2) F sc_is_order (by decide) fun cdv A outer s H E fa hr => by
    have hu65 : (A.deeper (envOfC "is_order" (defScope s_is_order) s.heap.objs.size f cdv)).units + 65 < cLine := by
      have := hr.un
      omega
    have hu64 : (A.deeper (envOfC "is_order" (defScope s_is_order) s.heap.objs.size f cdv)).units + 64 < cLine := by omega
    have hu1 : (A.deeper (envOfC "is_order" (defScope s_is_order) s.heap.objs.size f cdv)).units + 1 < cLine := by omega
    exact (ssj_cons (sj_if (TWD.td (twd_or (td_not (td_tru (ed_callB call_isi ok_isi T.isinstance_ (ld_cons (ed_var 0) (ld_cons (ed_ty "tuple" T.tuple_) ld_nil))))) (twd_or1 (td_not (td_tru (ed_callB (cr_all rfl) ok_all T.all_ (ld_cons (ND.ed (nd_lc rfl nd_is_order (ij_any (ed_var 0)) (blkOk_by (own := [("one", 1)]) (N := n_is_order) (sc := defScope s_is_order) (by decide +kernel)) (by decide) (by decide) (fun _ _ _ _ _ => (tj_name (i := 1) nd_is_order)) (fun _ _ _ _ _ => ptd_nil) (fun _ _ _ _ _ => (ed_cal C_is_between (hr.mono (by decide)) pass_blk (ld_cons (ed_var 1) (ld_cons (ed_un un_neg ok_neg ed_int) (ld_cons (ed_un un_neg ok_neg ed_int) ld_nil))))))) ld_nil))))))) (ssj_one (sj_ret ed_bl)) ssj_nil)
    (ssj_one (sj_ret (ed_cmp (opr_eq hu64) ok_eq (ed_callB cr_sortTI ok_sortTI T.sorted_ (ld_cons (ed_var 0) ld_nil)) (ed_listRg2 rfl T.list_ T.range_ (ed_un un_neg ok_neg (ed_callB crl_len ok_len T.len_ (ld_cons (ed_var 0) ld_nil))) ed_int)))))
theorem cal_is_order {P : Program} {w : World} {K : PySem.W.Frag} {mg : Str → Option Value} {base : Heap} (T : Txt K w mg) (D0 : Dff K mg "is_order" ["value"] s_is_order) (C_is_between : Cal P w K mg base 2 "is_between" ["value", "least", "most"] g_is_between) : Cal P w K mg base 3 "is_order" ["value"] g_is_order := cal_of D0 (fo_is_order T C_is_between)
abbrev s_has_details : Stmt := topS 33
abbrev n_has_details : List Str := ["step", "kind"]
theorem sc_has_details : FnScope n_has_details ["step"] (defScope s_has_details) := ⟨rfl, rfl, rfl, by decide +kernel, rfl, by decide +kernel, by decide +kernel⟩
theorem nd_has_details : List.Nodup n_has_details := sc_has_details.nd
def b_has_details : Sts → M (Fl × Sts) :=
  (gSeq (gSet 1 (vMask (dOp ixD (dVar 0) (dC (.int 1)))))
    (gSeq (gIf (cCmp eqD (dVar 1) (dC (.str "reduce"))) (gRet (dAnd (dCall g_is_axis (lCons (dOp ixD (dVar 0) (dC (.int 4))) lNil)) (dFn isiD (lCons (dOp ixD (dVar 0) (dC (.int 5))) (lCons (dC (.opq (.ty "bool"))) lNil))))) gNext)
    (gSeq (gIf (cCmp eqD (dVar 1) (dC (.str "transpose"))) (gRet (dCall g_is_order (lCons (dOp ixD (dVar 0) (dC (.int 3))) lNil))) gNext)
    (gSeq (gIf (cCmp inD (dVar 1) (dFn mkTup (lCons (dC (.str "insert")) (lCons (dC (.str "remove")) (lCons (dC (.str "stack")) lNil))))) (gRet (dCall g_is_axis (lCons (dOp ixD (dVar 0) (dC (.int 3))) lNil))) gNext)
    (gSeq (gIf (cCmp eqD (dVar 1) (dC (.str "select"))) (gRet (dAnd (dCall g_is_axis (lCons (dOp ixD (dVar 0) (dC (.int 3))) lNil)) (dAnd (dCall g_is_number (lCons (dOp ixD (dVar 0) (dC (.int 4))) lNil)) (dOp inD (dOp ixD (dVar 0) (dC (.int 4))) (dC (.tup [.int 0, .int 1, .int (-1), .int (-2)])))))) gNext)
    (gRet (dOr (dOp neD (dVar 1) (dC (.str "stretch"))) (dCall g_is_shape (lCons (dOp ixD (dVar 0) (dC (.int 3))) lNil)))))))))
def g_has_details : List D → M D := runD 2 1 b_has_details
theorem fo_has_details {P : Program} {w : World} {K : PySem.W.Frag} {mg : Str → Option Value} {base : Heap} (T : Txt K w mg) (C_is_axis : Cal P w K mg base 3 "is_axis" ["value"] g_is_axis) (C_is_order : Cal P w K mg base 3 "is_order" ["value"] g_is_order) (C_is_number : Cal P w K mg base 1 "is_number" ["value"] g_is_number) (C_is_shape : Cal P w K mg base 4 "is_shape" ["value"] g_is_shape) (f : Addr) (fd : FuncData) (F : Fun K "has_details" "has_details" s_has_details f fd) : FnOk P w K mg base (L2.CX P w) 5 f fd ["step"] (DSp K mg g_has_details) :=
  fn_d (k := 4) F sc_has_details (by decide) fun cdv A outer s H E fa hr => by
    have hu65 : (A.deeper (envOfC "has_details" (defScope s_has_details) s.heap.objs.size f cdv)).units + 65 < cLine := by
      have := hr.un
      omega
    have hu64 : (A.deeper (envOfC "has_details" (defScope s_has_details) s.heap.objs.size f cdv)).units + 64 < cLine := by omega
    have hu1 : (A.deeper (envOfC "has_details" (defScope s_has_details) s.heap.objs.size f cdv)).units + 1 < cLine := by omega
    exact (ssj_cons (sj_set (i := 1) nd_has_details (vj_mask (ed_ix hu1 (ed_var 0) ed_int)))
    (ssj_cons (sj_if (td_cmp (opr_eq hu64) ok_eq (ed_var 1) ed_str) (ssj_one (sj_ret (ed_and (ed_cal C_is_axis (hr.mono (by decide)) pass_def (ld_cons (ed_ix hu1 (ed_var 0) ed_int) ld_nil)) (ed_one (ed_callB call_isi ok_isi T.isinstance_ (ld_cons (ed_ix hu1 (ed_var 0) ed_int) (ld_cons (ed_ty "bool" T.bool_) ld_nil))))))) ssj_nil)
    (ssj_cons (sj_if (td_cmp (opr_eq hu64) ok_eq (ed_var 1) ed_str) (ssj_one (sj_ret (ed_cal C_is_order (hr.mono (by decide)) pass_def (ld_cons (ed_ix hu1 (ed_var 0) ed_int) ld_nil)))) ssj_nil)
    (ssj_cons (sj_if (td_cmp (opr_in hu65) ok_in (ed_var 1) (ed_tup (ld_cons ed_str (ld_cons ed_str (ld_cons ed_str ld_nil))))) (ssj_one (sj_ret (ed_cal C_is_axis (hr.mono (by decide)) pass_def (ld_cons (ed_ix hu1 (ed_var 0) ed_int) ld_nil)))) ssj_nil)
    (ssj_cons (sj_if (td_cmp (opr_eq hu64) ok_eq (ed_var 1) ed_str) (ssj_one (sj_ret (ed_and (ed_cal C_is_axis (hr.mono (by decide)) pass_def (ld_cons (ed_ix hu1 (ed_var 0) ed_int) ld_nil)) (ed_and (ed_cal C_is_number (hr.mono (by decide)) pass_def (ld_cons (ed_ix hu1 (ed_var 0) ed_int) ld_nil)) (ed_one (ed_cmp (opr_in hu65) ok_in (ed_ix hu1 (ed_var 0) ed_int) (ed_tupC T.INDEXES_))))))) ssj_nil)
    (ssj_one (sj_ret (ed_or (ed_cmp (opr_ne hu64) ok_ne (ed_var 1) ed_str) (ed_one (ed_cal C_is_shape (hr.mono (by decide)) pass_def (ld_cons (ed_ix hu1 (ed_var 0) ed_int) ld_nil)))))))))))
theorem cal_has_details {P : Program} {w : World} {K : PySem.W.Frag} {mg : Str → Option Value} {base : Heap} (T : Txt K w mg) (D0 : Dff K mg "has_details" ["step"] s_has_details) (C_is_axis : Cal P w K mg base 3 "is_axis" ["value"] g_is_axis) (C_is_order : Cal P w K mg base 3 "is_order" ["value"] g_is_order) (C_is_number : Cal P w K mg base 1 "is_number" ["value"] g_is_number) (C_is_shape : Cal P w K mg base 4 "is_shape" ["value"] g_is_shape) : Cal P w K mg base 5 "has_details" ["step"] g_has_details := cal_of D0 (fo_has_details T C_is_axis C_is_order C_is_number C_is_shape)
abbrev s_is_step : Stmt := topS 34
abbrev n_is_step : List Str := ["value", "one"]
theorem sc_is_step : FnScope n_is_step ["value"] (defScope s_is_step) := ⟨rfl, rfl, rfl, by decide +kernel, rfl, by decide +kernel, by decide +kernel⟩
theorem nd_is_step : List.Nodup n_is_step := sc_is_step.nd
def b_is_step : Sts → M (Fl × Sts) :=
  (gSeq (gIf (cOr (cNot (cTru (dFn isiD (lCons (dVar 0) (lCons (dC (.opq (.ty "tuple"))) lNil))))) (cOr (cCmp ltD (dFn lenD (lCons (dVar 0) lNil)) (dC (.int 2))) (cOr (cNot (cTru (dCall g_is_name (lCons (dOp ixD (dVar 0) (dC (.int 0))) lNil)))) (cNot (cTru (dFn isiD (lCons (dOp ixD (dVar 0) (dC (.int 1))) (lCons (dC (.opq (.ty "str"))) lNil)))))))) (gRet (dC (.bl false))) gNext)
    (gSeq (gIf (cCmp neD (dOp (tabGet ktab_KINDS) (dOp ixD (dVar 0) (dC (.int 1))) (dC (.int 0))) (dFn lenD (lCons (dVar 0) lNil))) (gRet (dC (.bl false))) gNext)
    (gSeq (gIf (cAnd (cCmp eqD (dOp ixD (dVar 0) (dC (.int 1))) (dC (.str "stack"))) (cNot (cAnd (cTru (dFn isiD (lCons (dOp ixD (dVar 0) (dC (.int 2))) (lCons (dC (.opq (.ty "tuple"))) lNil)))) (cChain leD leD (dC (.int 1)) (dFn lenD (lCons (dOp ixD (dVar 0) (dC (.int 2))) lNil)) (dC (.int 3)))))) (gRet (dC (.bl false))) gNext)
    (gSeq (gIf (cAnd (cCmp inD (dOp ixD (dVar 0) (dC (.int 1))) (dC (.tup [.str "map", .str "combine", .str "into", .str "reduce"]))) (cNot (cTru (dCall g_is_name (lCons (dOp ixD (dVar 0) (dC (.int 2))) lNil))))) (gRet (dC (.bl false))) gNext)
    (gRet (dAnd (dFn allD (lCons (dNew (dLc (iAny (dCall g_operands (lCons (dVar 0) lNil))) (bName 1) cYes (dCall g_is_name (lCons (dVar 1) lNil)))) lNil)) (dCall g_has_details (lCons (dVar 0) lNil))))))))
def g_is_step : List D → M D := runD 2 1 b_is_step
theorem fo_is_step {P : Program} {w : World} {K : PySem.W.Frag} {mg : Str → Option Value} {base : Heap} (T : Txt K w mg) (C_is_name : Cal P w K mg base 1 "is_name" ["value"] g_is_name) (C_operands : Cal P w K mg base 1 "operands" ["step"] g_operands) (C_has_details : Cal P w K mg base 5 "has_details" ["step"] g_has_details) (f : Addr) (fd : FuncData) (F : Fun K "is_step" "is_step" s_is_step f fd) : FnOk P w K mg base (L2.CX P w) 6 f fd ["value"] (DSp K mg g_is_step) :=
  fn_d (k := 5) F sc_is_step (by decide) fun cdv A outer s H E fa hr => by
    have hu65 : (A.deeper (envOfC "is_step" (defScope s_is_step) s.heap.objs.size f cdv)).units + 65 < cLine := by
      have := hr.un
      omega
    have hu64 : (A.deeper (envOfC "is_step" (defScope s_is_step) s.heap.objs.size f cdv)).units + 64 < cLine := by omega
    have hu1 : (A.deeper (envOfC "is_step" (defScope s_is_step) s.heap.objs.size f cdv)).units + 1 < cLine := by omega
    exact (ssj_cons (sj_if (TWD.td (twd_or (td_not (td_tru (ed_callB call_isi ok_isi T.isinstance_ (ld_cons (ed_var 0) (ld_cons (ed_ty "tuple" T.tuple_) ld_nil))))) (twd_or (td_cmp op_lt ok_lt (ed_callB crl_len ok_len T.len_ (ld_cons (ed_var 0) ld_nil)) ed_int) (twd_or (td_not (td_tru (ed_cal C_is_name (hr.mono (by decide)) pass_def (ld_cons (ed_ix hu1 (ed_var 0) ed_int) ld_nil)))) (twd_or1 (td_not (td_tru (ed_callB call_isi ok_isi T.isinstance_ (ld_cons (ed_ix hu1 (ed_var 0) ed_int) (ld_cons (ed_ty "str" T.str_) ld_nil)))))))))) (ssj_one (sj_ret ed_bl)) ssj_nil)
    (ssj_cons (sj_if (td_cmp (opr_ne hu64) ok_ne (ed_ktget2 T.KINDS_ (ed_ix hu1 (ed_var 0) ed_int) ed_int) (ed_callB crl_len ok_len T.len_ (ld_cons (ed_var 0) ld_nil))) (ssj_one (sj_ret ed_bl)) ssj_nil)
    (ssj_cons (sj_if (TWD.td (twd_and (td_cmp (opr_eq hu64) ok_eq (ed_ix hu1 (ed_var 0) ed_int) ed_str) (twd_and1 (td_not (TWD.td (twd_and (td_tru (ed_callB call_isi ok_isi T.isinstance_ (ld_cons (ed_ix hu1 (ed_var 0) ed_int) (ld_cons (ed_ty "tuple" T.tuple_) ld_nil)))) (twd_and1 (td_chain op_le ok_le op_le ok_le ed_int (ed_callB crl_len ok_len T.len_ (ld_cons (ed_ix hu1 (ed_var 0) ed_int) ld_nil)) (ed_gint T.MOST_STACKED_))))))))) (ssj_one (sj_ret ed_bl)) ssj_nil)
    (ssj_cons (sj_if (TWD.td (twd_and (td_cmp (opr_in hu65) ok_in (ed_ix hu1 (ed_var 0) ed_int) (ed_tupC T.WORDED_)) (twd_and1 (td_not (td_tru (ed_cal C_is_name (hr.mono (by decide)) pass_def (ld_cons (ed_ix hu1 (ed_var 0) ed_int) ld_nil))))))) (ssj_one (sj_ret ed_bl)) ssj_nil)
    (ssj_one (sj_ret (ed_and (ed_callB (cr_all rfl) ok_all T.all_ (ld_cons (ND.ed (nd_lc rfl nd_is_step (ij_any (ed_cal C_operands (hr.mono (by decide)) pass_def (ld_cons (ed_var 0) ld_nil))) (blkOk_by (own := [("one", 1)]) (N := n_is_step) (sc := defScope s_is_step) (by decide +kernel)) (by decide) (by decide) (fun _ _ _ _ _ => (tj_name (i := 1) nd_is_step)) (fun _ _ _ _ _ => ptd_nil) (fun _ _ _ _ _ => (ed_cal C_is_name (hr.mono (by decide)) pass_blk (ld_cons (ed_var 1) ld_nil))))) ld_nil)) (ed_one (ed_cal C_has_details (hr.mono (by decide)) pass_def (ld_cons (ed_var 0) ld_nil))))))))))
theorem cal_is_step {P : Program} {w : World} {K : PySem.W.Frag} {mg : Str → Option Value} {base : Heap} (T : Txt K w mg) (D0 : Dff K mg "is_step" ["value"] s_is_step) (C_is_name : Cal P w K mg base 1 "is_name" ["value"] g_is_name) (C_operands : Cal P w K mg base 1 "operands" ["step"] g_operands) (C_has_details : Cal P w K mg base 5 "has_details" ["step"] g_has_details) : Cal P w K mg base 6 "is_step" ["value"] g_is_step := cal_of D0 (fo_is_step T C_is_name C_operands C_has_details)
abbrev s_check_steps : Stmt := topS 42
abbrev n_check_steps : List Str := ["known", "steps", "most", "names", "at", "step", "one"]
theorem sc_check_steps : FnScope n_check_steps ["known", "steps", "most"] (defScope s_check_steps) := ⟨rfl, rfl, rfl, by decide +kernel, rfl, by decide +kernel, by decide +kernel⟩
theorem nd_check_steps : List.Nodup n_check_steps := sc_check_steps.nd
def b_check_steps : Sts → M (Fl × Sts) :=
  (gSeq (gIf (cOr (cNot (cTru (dCall g_is_listed (lCons (dVar 1) lNil)))) (cCmp gtD (dFn lenD (lCons (dVar 1) lNil)) (dVar 2))) gBad gNext)
    (gSeq (gSet 3 (vNew (fun ρ => ((lCons (dVar 0) lNil) ρ).bind fun xs => M.lift (listNA xs))))
    (gFor (iFn enm (lCons (dVar 1) lNil)) (bTup (bCons (bName 4) (bCons (bName 5) bNil))) (gSeq (gIf (cNot (cTru (dCall g_is_step (lCons (dVar 5) lNil)))) gBad gNext)
    (gSeq (gIf (cCmp inD (dOp ixD (dVar 5) (dC (.int 0))) (dVar 3)) gBad gNext)
    (gSeq (gFor (iAny (dCall g_operands (lCons (dVar 5) lNil))) (bName 6) (gIf (cCmp ninD (dVar 6) (dVar 3)) gBad gNext))
    (gDrop (vMt 3 moAppend (lvCons (vMask (dOp ixD (dVar 5) (dC (.int 0)))) lvNil)))))))))
def g_check_steps : List D → M D := runD 7 3 b_check_steps
theorem fo_check_steps {P : Program} {w : World} {K : PySem.W.Frag} {mg : Str → Option Value} {base : Heap} (T : Txt K w mg) (C_is_listed : Cal P w K mg base 1 "is_listed" ["value"] g_is_listed) (C_is_step : Cal P w K mg base 6 "is_step" ["value"] g_is_step) (C_operands : Cal P w K mg base 1 "operands" ["step"] g_operands) (f : Addr) (fd : FuncData) (F : Fun K "check_steps" "check_steps" s_check_steps f fd) : FnOk P w K mg base (L2.CX P w) 7 f fd ["known", "steps", "most"] (DSp K mg g_check_steps) :=
  fn_d (k := 6) F sc_check_steps (by decide) fun cdv A outer s H E fa hr => by
    have hu65 : (A.deeper (envOfC "check_steps" (defScope s_check_steps) s.heap.objs.size f cdv)).units + 65 < cLine := by
      have := hr.un
      omega
    have hu64 : (A.deeper (envOfC "check_steps" (defScope s_check_steps) s.heap.objs.size f cdv)).units + 64 < cLine := by omega
    have hu1 : (A.deeper (envOfC "check_steps" (defScope s_check_steps) s.heap.objs.size f cdv)).units + 1 < cLine := by omega
    exact (ssj_cons (sj_if (TWD.td (twd_or (td_not (td_tru (ed_cal C_is_listed (hr.mono (by decide)) pass_def (ld_cons (ed_var 1) ld_nil)))) (twd_or1 (td_cmp op_gt ok_gt (ed_callB crl_len ok_len T.len_ (ld_cons (ed_var 1) ld_nil)) (ed_var 2))))) (ssj_one sj_never) ssj_nil)
    (ssj_cons (sj_set (i := 3) nd_check_steps (vj_new (nd_listA T.list_ rfl (ld_cons (ed_var 0) ld_nil))))
    (ssj_one (sj_for (passes_of rfl) rfl (ij_enum T.enumerate_ (ld_cons (ed_var 1) ld_nil)) (tj_tup rfl (tsj_cons (tj_name (i := 4) nd_check_steps) (tsj_cons (tj_name (i := 5) nd_check_steps) tsj_nil)) (bCons_len (bCons_len bNil_len))) (ssj_cons (sj_if (td_not (td_tru (ed_cal C_is_step (hr.mono (by decide)) pass_def (ld_cons (ed_var 5) ld_nil)))) (ssj_one sj_never) ssj_nil)
    (ssj_cons (sj_if (td_cmp (opr_in hu65) ok_in (ed_ix hu1 (ed_var 5) ed_int) (ed_var 3)) (ssj_one sj_never) ssj_nil)
    (ssj_cons (sj_for (passes_of rfl) rfl (ij_any (ed_cal C_operands (hr.mono (by decide)) pass_def (ld_cons (ed_var 5) ld_nil))) (tj_name (i := 6) nd_check_steps) (ssj_one (sj_if (td_cmp (opr_nin hu65) ok_nin (ed_var 6) (ed_var 3)) (ssj_one sj_never) ssj_nil)))
    (ssj_one (sj_expr (vj_mt (i := 3) PySem.F.slot_list_append PySem.F.type_list_append mt_append ok_append (lvj_cons (vj_mask (ed_ix hu1 (ed_var 5) ed_int)) lvj_nil) (pv 3)))))))))))
theorem cal_check_steps {P : Program} {w : World} {K : PySem.W.Frag} {mg : Str → Option Value} {base : Heap} (T : Txt K w mg) (D0 : Dff K mg "check_steps" ["known", "steps", "most"] s_check_steps) (C_is_listed : Cal P w K mg base 1 "is_listed" ["value"] g_is_listed) (C_is_step : Cal P w K mg base 6 "is_step" ["value"] g_is_step) (C_operands : Cal P w K mg base 1 "operands" ["step"] g_operands) : Cal P w K mg base 7 "check_steps" ["known", "steps", "most"] g_check_steps := cal_of D0 (fo_check_steps T C_is_listed C_is_step C_operands)
abbrev s_letters_of : Stmt := topS 22
abbrev n_letters_of : List Str := ["shapes", "shape", "one"]
theorem sc_letters_of : FnScope n_letters_of ["shapes"] (defScope s_letters_of) := ⟨rfl, rfl, rfl, by decide +kernel, rfl, by decide +kernel, by decide +kernel⟩
theorem nd_letters_of : List.Nodup n_letters_of := sc_letters_of.nd
def b_letters_of : Sts → M (Fl × Sts) :=
  (gRet (dSortSet2 [1, 2] (iAny (dVar 0)) (bName 1) cYes (iAny (dVar 1)) (bName 2) (cTru (dFn isiD (lCons (dVar 2) (lCons (dC (.opq (.ty "str"))) lNil)))) (dVar 2)))
def g_letters_of : List D → M D := starD 0 (runD 3 1 b_letters_of)
theorem fs_letters_of {P : Program} {w : World} {K : PySem.W.Frag} {mg : Str → Option Value} {base : Heap} (T : Txt K w mg)  {f : Addr} {oc : Value} {od an : Option Addr} {osl : Array (Option Value)} {kV doc pm cdv ct : Value} (l : K.lookup f = some ⟨oc, od, .func (PySem.W.fnOf "letters_of" "letters_of" (defArgs s_letters_of) (defBody s_letters_of) (defScope s_letters_of) .none kV doc pm an cdv ct), osl⟩) (c : PySem.W.codeIn K cdv "letters_of" = true) : FnR P w K mg base (L2.CX P w) 1 f (DSp K mg g_letters_of) :=
  fn_starD (k := 0) (ps := []) (pv := "shapes") l c sc_letters_of (by decide) (fun us rest hl => match us, rest, hl with | [], [], _ => rfl | [], _ :: _, _ => rfl) fun cdv A outer s H E fa hr => by
    have hu65 : (A.deeper (envOfC "letters_of" (defScope s_letters_of) s.heap.objs.size f cdv)).units + 65 < cLine := by
      have := hr.un
      omega
    have hu64 : (A.deeper (envOfC "letters_of" (defScope s_letters_of) s.heap.objs.size f cdv)).units + 64 < cLine := by omega
    have hu1 : (A.deeper (envOfC "letters_of" (defScope s_letters_of) s.heap.objs.size f cdv)).units + 1 < cLine := by omega
    exact (ssj_one (sj_ret (ed_sortSet2 T.sorted_ (vs1 := [2]) rfl nd_letters_of (ij_any (ed_var 0)) (blkOk_by (own := [("shape", 1), ("one", 2)]) (N := n_letters_of) (sc := defScope s_letters_of) (by decide +kernel)) (by decide) (by decide) (by decide) (by decide) (fun _ _ _ _ _ => (tj_name (i := 1) nd_letters_of)) (fun _ _ _ _ _ => ptd_nil) (fun _ _ _ _ _ => (ij_any (ed_var 1))) (fun _ _ _ _ _ => (tj_name (i := 2) nd_letters_of)) (fun _ _ _ _ _ => (ptd_one (td_tru (ed_callB call_isi ok_isi T.isinstance_ (ld_cons (ed_var 2) (ld_cons (ed_ty "str" T.str_) ld_nil)))))) (fun _ _ _ _ _ => (ed_var 2)))))
def tab_own_letters : List (Str × AK) := [("Program", .fld)]
abbrev s_bound_of : Stmt := topS 43
abbrev n_bound_of : List Str := ["shapes", "steps", "numbers", "shape", "one", "step"]
theorem sc_bound_of : FnScope n_bound_of ["shapes", "steps"] (defScope s_bound_of) := ⟨rfl, rfl, rfl, by decide +kernel, rfl, by decide +kernel, by decide +kernel⟩
theorem nd_bound_of : List.Nodup n_bound_of := sc_bound_of.nd
def b_bound_of : Sts → M (Fl × Sts) :=
  (gSeq (gSet 2 (vMask (dOp addD (dFn mkLst (lCons (dC (.int 2)) lNil)) (dNew (dLc2 sizeLine (fun _ => true) [3, 4] (iAny (dVar 0)) (bName 3) cYes (iAny (dVar 3)) (bName 4) (cTru (dCall g_is_number (lCons (dVar 4) lNil))) (dVar 4))))))
    (gSeq (gSet 2 (vMask (dOp addD (dVar 2) (dNew (dLc (iAny (dVar 1)) (bName 5) (cCmp eqD (dOp ixD (dVar 5) (dC (.int 1))) (dC (.str "stack"))) (dFn lenD (lCons (dOp ixD (dVar 5) (dC (.int 2))) lNil)))))))
    (gRet (dFn maxD (lCons (dFn mkLst (lStar (dVar 2) (lStar (dNew (dLc (iAny (dVar 1)) (bName 5) (cCmp eqD (dOp ixD (dVar 5) (dC (.int 1))) (dC (.str "select"))) (dC (.int 3)))) lNil))) lNil)))))
def g_bound_of : List D → M D := runD 6 2 b_bound_of
theorem fo_bound_of {P : Program} {w : World} {K : PySem.W.Frag} {mg : Str → Option Value} {base : Heap} (T : Txt K w mg) (C_is_number : Cal P w K mg base 1 "is_number" ["value"] g_is_number) (f : Addr) (fd : FuncData) (F : Fun K "bound_of" "bound_of" s_bound_of f fd) : FnOk P w K mg base (L2.CX P w) 2 f fd ["shapes", "steps"] (DSp K mg g_bound_of) :=
  fn_d (k := 1) F sc_bound_of (by decide) fun cdv A outer s H E fa hr => by
    have hu65 : (A.deeper (envOfC "bound_of" (defScope s_bound_of) s.heap.objs.size f cdv)).units + 65 < cLine := by
      have := hr.un
      omega
    have hu64 : (A.deeper (envOfC "bound_of" (defScope s_bound_of) s.heap.objs.size f cdv)).units + 64 < cLine := by omega
    have hu1 : (A.deeper (envOfC "bound_of" (defScope s_bound_of) s.heap.objs.size f cdv)).units + 1 < cLine := by omega
    exact (ssj_cons (sj_set (i := 2) nd_bound_of (vj_mask (ed_op opr_add ok_add (ed_lst (ld_cons ed_int ld_nil)) (ND.ed (nd_lc2 (vs1 := [4]) rfl nd_bound_of (ij_any (ed_var 0)) (blkOk_by (own := [("shape", 3), ("one", 4)]) (N := n_bound_of) (sc := defScope s_bound_of) (by decide +kernel)) (by decide) (by decide) (by decide) (by decide) (fun _ _ _ _ _ => (tj_name (i := 3) nd_bound_of)) (fun _ _ _ _ _ => ptd_nil) (fun _ _ _ _ _ => (ij_any (ed_var 3))) (fun _ _ _ _ _ => (tj_name (i := 4) nd_bound_of)) (fun _ _ _ _ _ => (ptd_one (td_tru (ed_cal C_is_number (hr.mono (by decide)) pass_blk (ld_cons (ed_var 4) ld_nil))))) (fun _ _ _ _ _ => (ed_var 4)))))))
    (ssj_cons (sj_set (i := 2) nd_bound_of (vj_mask (ed_op opr_add ok_add (ed_var 2) (ND.ed (nd_lc rfl nd_bound_of (ij_any (ed_var 1)) (blkOk_by (own := [("step", 5)]) (N := n_bound_of) (sc := defScope s_bound_of) (by decide +kernel)) (by decide) (by decide) (fun _ _ _ _ _ => (tj_name (i := 5) nd_bound_of)) (fun _ _ _ _ _ => (ptd_one (td_cmp (opr_eq hu64) ok_eq (ed_ix hu1 (ed_var 5) ed_int) ed_str))) (fun _ _ _ _ _ => (ed_callB crl_len ok_len T.len_ (ld_cons (ed_ix hu1 (ed_var 5) ed_int) ld_nil))))))))
    (ssj_one (sj_ret (ed_callB (crl_max rfl) ok_max T.max_ (ld_cons (ed_lst (ld_star (ed_var 2) (ld_star (ND.ed (nd_lc rfl nd_bound_of (ij_any (ed_var 1)) (blkOk_by (own := [("step", 5)]) (N := n_bound_of) (sc := defScope s_bound_of) (by decide +kernel)) (by decide) (by decide) (fun _ _ _ _ _ => (tj_name (i := 5) nd_bound_of)) (fun _ _ _ _ _ => (ptd_one (td_cmp (opr_eq hu64) ok_eq (ed_ix hu1 (ed_var 5) ed_int) ed_str))) (fun _ _ _ _ _ => ed_int))) ld_nil))) ld_nil))))))
theorem cal_bound_of {P : Program} {w : World} {K : PySem.W.Frag} {mg : Str → Option Value} {base : Heap} (T : Txt K w mg) (D0 : Dff K mg "bound_of" ["shapes", "steps"] s_bound_of) (C_is_number : Cal P w K mg base 1 "is_number" ["value"] g_is_number) : Cal P w K mg base 2 "bound_of" ["shapes", "steps"] g_bound_of := cal_of D0 (fo_bound_of T C_is_number)
abbrev s_Program___init__ : Stmt := mthS 44 2
abbrev n_Program___init__ : List Str := ["self", "inputs", "steps", "checks", "shapes", "kinds", "name", "shape", "step", "one", "kind"]
theorem sc_Program___init__ : FnScope n_Program___init__ ["self", "inputs", "steps", "checks"] (defScope s_Program___init__) := ⟨rfl, rfl, rfl, by decide +kernel, rfl, by decide +kernel, by decide +kernel⟩
theorem nd_Program___init__ : List.Nodup n_Program___init__ := sc_Program___init__.nd
def b_Program___init__ : Sts → M (Fl × Sts) :=
  (gSeq (gDrop (vMask (dCall g_check_inputs (lCons (dVar 1) lNil))))
    (gSeq (gDrop (vMask (dCall g_check_checks (lCons (dVar 3) lNil))))
    (gSeq (gDrop (vMask (dCall g_check_steps (lCons (dNew (dLc (iAny (dVar 1)) (bTup (bCons (bName 6) (bCons (bName 7) bNil))) cYes (dVar 6))) (lCons (dVar 2) (lCons (dC (.int 10)) lNil))))))
    (gSeq (gFlds 0 "Program" ["own_inputs", "own_steps", "own_checks"] (lvCons (vMask (dFn tupleD (lCons (dVar 1) lNil))) (lvCons (vMask (dFn tupleD (lCons (dVar 2) lNil))) (lvCons (vMask (dFn tupleD (lCons (dVar 3) lNil))) lvNil))))
    (gSeq (gSet 4 (vMask (dOp addD (dNew (dLc (iAny (dVar 1)) (bTup (bCons (bName 6) (bCons (bName 7) bNil))) cYes (dVar 7))) (dNew (dLc (iAny (dVar 2)) (bName 8) (cCmp eqD (dOp ixD (dVar 8) (dC (.int 1))) (dC (.str "stretch"))) (dOp ixD (dVar 8) (dC (.int 3))))))))
    (gSeq (gSet 4 (vMask (dOp addD (dVar 4) (dNew (dLc (iAny (dVar 3)) (bName 9) cYes (dSl (dVar 9) (oSome (dC (.int 1))) oNo))))))
    (gSeq (gFld 0 "Program" "own_letters" (vMask (dMtT "str" joinD (dC (.str "")) (lCons (dCallS g_letters_of (dVar 4)) lNil))))
    (gSeq (gIf (cCmp gtD (dFn lenD (lCons (dAttr tab_own_letters "own_letters" (dVar 0)) lNil)) (dC (.int 4))) gBad gNext)
    (gSeq (gFld 0 "Program" "own_bound" (vMask (dCall g_bound_of (lCons (dVar 4) (lCons (dVar 2) lNil)))))
    (gSeq (gFld 0 "Program" "own_names" (vMask (dOp addD (dNew (dLc (iAny (dVar 1)) (bTup (bCons (bName 6) (bCons (bName 7) bNil))) cYes (dVar 6))) (dNew (dLc (iAny (dVar 2)) (bName 8) cYes (dOp ixD (dVar 8) (dC (.int 0))))))))
    (gSeq (gSet 5 (vNew (dLc (iAny (dVar 2)) (bName 8) cYes (dOp ixD (dVar 8) (dC (.int 1))))))
    (gFrz 5 (gFld 0 "Program" "own_steady" (vMask (dAnd (dOp eqD (dFn lenD (lCons (dVar 3) lNil)) (dC (.int 0))) (dNot (dFn anyD (lCons (dNew (dLc (iAny (dVar 5)) (bName 10) cYes (dOp inD (dVar 10) (dC (.tup [.str "squeeze", .str "select"]))))) lNil))))))))))))))))))
def gi_Program___init__ : Addr → List D → M (List (Str × D)) := initRun 11 4 "Program" b_Program___init__
theorem fi_Program___init__ {P : Program} {w : World} {K : PySem.W.Frag} {mg : Str → Option Value} {base : Heap} (T : Txt K w mg) (C_check_inputs : Cal P w K mg base 5 "check_inputs" ["inputs"] g_check_inputs) (C_check_checks : Cal P w K mg base 4 "check_checks" ["checks"] g_check_checks) (C_check_steps : Cal P w K mg base 7 "check_steps" ["known", "steps", "most"] g_check_steps) (C_letters_of : CalP P w K mg base 1 "letters_of" g_letters_of) (A_own_letters : ∀ q ∈ tab_own_letters, AOk P w K mg base 0 q.1 "own_letters" q.2) (C_bound_of : Cal P w K mg base 2 "bound_of" ["shapes", "steps"] g_bound_of) (f : Addr) (fd : FuncData) (F : OkB P w K mg base "Program.__init__" s_Program___init__ f fd) : FnOk P w K mg base (L2.CX P w) 8 f fd ["self", "inputs", "steps", "checks"] (DSpI K mg "Program" gi_Program___init__) :=
  fn_init (k := 7) F sc_Program___init__ (by decide) fun cdv A outer s H E fa hr => by
    have hu65 : (A.deeper (envOfC "Program.__init__" (defScope s_Program___init__) s.heap.objs.size f cdv)).units + 65 < cLine := by
      have := hr.un
      omega
    have hu64 : (A.deeper (envOfC "Program.__init__" (defScope s_Program___init__) s.heap.objs.size f cdv)).units + 64 < cLine := by omega
    have hu1 : (A.deeper (envOfC "Program.__init__" (defScope s_Program___init__) s.heap.objs.size f cdv)).units + 1 < cLine := by omega
    exact (ssj_cons (sj_expr (vj_mask (ed_cal C_check_inputs (hr.mono (by decide)) pass_def (ld_cons (ed_var 1) ld_nil))))
    (ssj_cons (sj_expr (vj_mask (ed_cal C_check_checks (hr.mono (by decide)) pass_def (ld_cons (ed_var 3) ld_nil))))
    (ssj_cons (sj_expr (vj_mask (ed_cal C_check_steps (hr.mono (by decide)) pass_def (ld_cons (ND.ed (nd_lc rfl nd_Program___init__ (ij_any (ed_var 1)) (blkOk_by (own := [("name", 6), ("shape", 7)]) (N := n_Program___init__) (sc := defScope s_Program___init__) (by decide +kernel)) (by decide) (by decide) (fun _ _ _ _ _ => (tj_tup rfl (tsj_cons (tj_name (i := 6) nd_Program___init__) (tsj_cons (tj_name (i := 7) nd_Program___init__) tsj_nil)) (bCons_len (bCons_len bNil_len)))) (fun _ _ _ _ _ => ptd_nil) (fun _ _ _ _ _ => (ed_var 6)))) (ld_cons (ed_var 2) (ld_cons (ed_clscon T.k_Program_STEPS) ld_nil))))))
    (ssj_cons (sj_flds (i := 0) rfl (att_cons T.n_Program_own_inputs (pv 0) (att_cons T.n_Program_own_steps (pv 0) (att_cons T.n_Program_own_checks (pv 0) att_nil))) (lvj_cons (vj_mask (ed_callTy call_tuple_of ok_tuple T.tuple_ (ld_cons (ed_var 1) ld_nil))) (lvj_cons (vj_mask (ed_callTy call_tuple_of ok_tuple T.tuple_ (ld_cons (ed_var 2) ld_nil))) (lvj_cons (vj_mask (ed_callTy call_tuple_of ok_tuple T.tuple_ (ld_cons (ed_var 3) ld_nil))) lvj_nil))))
    (ssj_cons (sj_set (i := 4) nd_Program___init__ (vj_mask (ed_op opr_add ok_add (ND.ed (nd_lc rfl nd_Program___init__ (ij_any (ed_var 1)) (blkOk_by (own := [("name", 6), ("shape", 7)]) (N := n_Program___init__) (sc := defScope s_Program___init__) (by decide +kernel)) (by decide) (by decide) (fun _ _ _ _ _ => (tj_tup rfl (tsj_cons (tj_name (i := 6) nd_Program___init__) (tsj_cons (tj_name (i := 7) nd_Program___init__) tsj_nil)) (bCons_len (bCons_len bNil_len)))) (fun _ _ _ _ _ => ptd_nil) (fun _ _ _ _ _ => (ed_var 7)))) (ND.ed (nd_lc rfl nd_Program___init__ (ij_any (ed_var 2)) (blkOk_by (own := [("step", 8)]) (N := n_Program___init__) (sc := defScope s_Program___init__) (by decide +kernel)) (by decide) (by decide) (fun _ _ _ _ _ => (tj_name (i := 8) nd_Program___init__)) (fun _ _ _ _ _ => (ptd_one (td_cmp (opr_eq hu64) ok_eq (ed_ix hu1 (ed_var 8) ed_int) ed_str))) (fun _ _ _ _ _ => (ed_ix hu1 (ed_var 8) ed_int)))))))
    (ssj_cons (sj_set (i := 4) nd_Program___init__ (vj_mask (ed_op opr_add ok_add (ed_var 4) (ND.ed (nd_lc rfl nd_Program___init__ (ij_any (ed_var 3)) (blkOk_by (own := [("one", 9)]) (N := n_Program___init__) (sc := defScope s_Program___init__) (by decide +kernel)) (by decide) (by decide) (fun _ _ _ _ _ => (tj_name (i := 9) nd_Program___init__)) (fun _ _ _ _ _ => ptd_nil) (fun _ _ _ _ _ => (ed_slice (ed_var 9) (oj_some ed_int) oj_none)))))))
    (ssj_cons (sj_fld (i := 0) T.n_Program_own_letters (vj_mask (ed_mt PySem.F.plainAttrs_str PySem.F.slot_str_join PySem.F.type_str_join mt_join ok_join tyV_str ht_join ed_str (ld_cons (ed_calS C_letters_of (hr.mono (by decide)) pass_def (ed_var 4)) ld_nil))) (pv 0))
    (ssj_cons (sj_if (td_cmp op_gt ok_gt (ed_callB crl_len ok_len T.len_ (ld_cons (ed_attr (tab := tab_own_letters) (hr.mono (by decide)) A_own_letters (ed_var 0)) ld_nil)) (ed_clscon T.k_Program_LETTERS)) (ssj_one sj_never) ssj_nil)
    (ssj_cons (sj_fld (i := 0) T.n_Program_own_bound (vj_mask (ed_cal C_bound_of (hr.mono (by decide)) pass_def (ld_cons (ed_var 4) (ld_cons (ed_var 2) ld_nil)))) (pv 0))
    (ssj_cons (sj_fld (i := 0) T.n_Program_own_names (vj_mask (ed_op opr_add ok_add (ND.ed (nd_lc rfl nd_Program___init__ (ij_any (ed_var 1)) (blkOk_by (own := [("name", 6), ("shape", 7)]) (N := n_Program___init__) (sc := defScope s_Program___init__) (by decide +kernel)) (by decide) (by decide) (fun _ _ _ _ _ => (tj_tup rfl (tsj_cons (tj_name (i := 6) nd_Program___init__) (tsj_cons (tj_name (i := 7) nd_Program___init__) tsj_nil)) (bCons_len (bCons_len bNil_len)))) (fun _ _ _ _ _ => ptd_nil) (fun _ _ _ _ _ => (ed_var 6)))) (ND.ed (nd_lc rfl nd_Program___init__ (ij_any (ed_var 2)) (blkOk_by (own := [("step", 8)]) (N := n_Program___init__) (sc := defScope s_Program___init__) (by decide +kernel)) (by decide) (by decide) (fun _ _ _ _ _ => (tj_name (i := 8) nd_Program___init__)) (fun _ _ _ _ _ => ptd_nil) (fun _ _ _ _ _ => (ed_ix hu1 (ed_var 8) ed_int)))))) (pv 0))
    (ssj_cons (sj_setLc (i := 5) rfl nd_Program___init__ (ij_any (ed_var 2)) (blkOk_by (own := [("step", 8)]) (N := n_Program___init__) (sc := defScope s_Program___init__) (by decide +kernel)) (by decide) (by decide) (fun _ _ _ _ _ => (tj_name (i := 8) nd_Program___init__)) (fun _ _ _ _ _ => ptd_nil) (fun _ _ _ _ _ => (ed_ix hu1 (ed_var 8) ed_int)))
    (ssj_frz 5 (ssj_one (sj_fld (i := 0) T.n_Program_own_steady (vj_mask (ed_and (ed_cmp (opr_eq hu64) ok_eq (ed_callB crl_len ok_len T.len_ (ld_cons (ed_var 3) ld_nil)) ed_int) (ed_one (ed_not (ed_callB (cr_any rfl) ok_any T.any_ (ld_cons (ND.ed (nd_lc rfl nd_Program___init__ (ij_any (ed_var 5)) (blkOk_by (own := [("kind", 10)]) (N := n_Program___init__) (sc := defScope s_Program___init__) (by decide +kernel)) (by decide) (by decide) (fun _ _ _ _ _ => (tj_name (i := 10) nd_Program___init__)) (fun _ _ _ _ _ => ptd_nil) (fun _ _ _ _ _ => (ed_cmp (opr_in hu65) ok_in (ed_var 10) (ed_tupC T.UNSTEADY_))))) ld_nil)))))) (pv 0)))))))))))))))
abbrev s_law_program : Stmt := topS 58
abbrev n_law_program : List Str := ["_law_model"]
theorem sc_law_program : FnScope n_law_program ["_law_model"] (defScope s_law_program) := ⟨rfl, rfl, rfl, by decide +kernel, rfl, by decide +kernel, by decide +kernel⟩
theorem nd_law_program : List.Nodup n_law_program := sc_law_program.nd
def b_law_program : Sts → M (Fl × Sts) :=
  (gRet (dMake "Program" 2 1 pmApp gi_Program___init__ (lCons (dFn listA (lCons (dOp ixD (dVar 0) (dC (.int 0))) lNil)) (lCons (dFn listA (lCons (dOp ixD (dVar 0) (dC (.int 1))) lNil)) lNil)) (lCons (dFn listA (lCons (dOp ixD (dVar 0) (dC (.int 2))) lNil)) lNil)))
def g_law_program : List D → M D := runD 1 1 b_law_program
theorem fo_law_program {P : Program} {w : World} {K : PySem.W.Frag} {mg : Str → Option Value} {base : Heap} (T : Txt K w mg) (N_Program_2_checks : Mal P w K mg base 8 "Program" 2 ["checks"] pmApp gi_Program___init__) (f : Addr) (fd : FuncData) (F : Fun K "_law_program" "_law_program" s_law_program f fd) : FnOk P w K mg base (L2.CX P w) 10 f fd ["_law_model"] (DSp K mg g_law_program) :=
  fn_d (k := 9) F sc_law_program (by decide) fun cdv A outer s H E fa hr => by
    have hu65 : (A.deeper (envOfC "_law_program" (defScope s_law_program) s.heap.objs.size f cdv)).units + 65 < cLine := by
      have := hr.un
      omega
    have hu64 : (A.deeper (envOfC "_law_program" (defScope s_law_program) s.heap.objs.size f cdv)).units + 64 < cLine := by omega
    have hu1 : (A.deeper (envOfC "_law_program" (defScope s_law_program) s.heap.objs.size f cdv)).units + 1 < cLine := by omega
    exact (ssj_one (sj_ret (ed_make N_Program_2_checks (hr.mono (by decide)) pass_def (ld_cons (ed_callTy (call_listA rfl) ok_listA T.list_ (ld_cons (ed_ix hu1 (ed_var 0) ed_int) ld_nil)) (ld_cons (ed_callTy (call_listA rfl) ok_listA T.list_ (ld_cons (ed_ix hu1 (ed_var 0) ed_int) ld_nil)) ld_nil)) (kd_cons (ed_callTy (call_listA rfl) ok_listA T.list_ (ld_cons (ed_ix hu1 (ed_var 0) ed_int) ld_nil)) kd_nil))))
theorem cal_law_program {P : Program} {w : World} {K : PySem.W.Frag} {mg : Str → Option Value} {base : Heap} (T : Txt K w mg) (D0 : Dff K mg "_law_program" ["_law_model"] s_law_program) (N_Program_2_checks : Mal P w K mg base 8 "Program" 2 ["checks"] pmApp gi_Program___init__) : Cal P w K mg base 10 "_law_program" ["_law_model"] g_law_program := cal_of D0 (fo_law_program T N_Program_2_checks)
def tab_own_steady : List (Str × AK) := [("Program", .fld)]
abbrev s_Program_is_steady : Stmt := mthS 44 9
abbrev n_Program_is_steady : List Str := ["self"]
theorem sc_Program_is_steady : FnScope n_Program_is_steady ["self"] (defScope s_Program_is_steady) := ⟨rfl, rfl, rfl, by decide +kernel, rfl, by decide +kernel, by decide +kernel⟩
theorem nd_Program_is_steady : List.Nodup n_Program_is_steady := sc_Program_is_steady.nd
def b_Program_is_steady : Sts → M (Fl × Sts) :=
  (gRet (dAttr tab_own_steady "own_steady" (dVar 0)))
def g_Program_is_steady : List D → M D := runD 1 1 b_Program_is_steady
theorem fo_Program_is_steady {P : Program} {w : World} {K : PySem.W.Frag} {mg : Str → Option Value} {base : Heap} (T : Txt K w mg) (A_own_steady : ∀ q ∈ tab_own_steady, AOk P w K mg base 0 q.1 "own_steady" q.2) (f : Addr) (fd : FuncData) (F : Fun K "is_steady" "Program.is_steady" s_Program_is_steady f fd) : FnOk P w K mg base (L2.CX P w) 2 f fd ["self"] (DSp K mg g_Program_is_steady) :=
  fn_d (k := 1) F sc_Program_is_steady (by decide) fun cdv A outer s H E fa hr => by
    have hu65 : (A.deeper (envOfC "Program.is_steady" (defScope s_Program_is_steady) s.heap.objs.size f cdv)).units + 65 < cLine := by
      have := hr.un
      omega
    have hu64 : (A.deeper (envOfC "Program.is_steady" (defScope s_Program_is_steady) s.heap.objs.size f cdv)).units + 64 < cLine := by omega
    have hu1 : (A.deeper (envOfC "Program.is_steady" (defScope s_Program_is_steady) s.heap.objs.size f cdv)).units + 1 < cLine := by omega
    exact (ssj_one (sj_ret (ed_attr (tab := tab_own_steady) (hr.mono (by decide)) A_own_steady (ed_var 0))))
def tab_is_steady : List (Str × AK) := [("Program", .prop g_Program_is_steady)]
def tab_own_inputs : List (Str × AK) := [("Program", .fld)]
abbrev s_Program_inputs : Stmt := mthS 44 3
abbrev n_Program_inputs : List Str := ["self"]
theorem sc_Program_inputs : FnScope n_Program_inputs ["self"] (defScope s_Program_inputs) := ⟨rfl, rfl, rfl, by decide +kernel, rfl, by decide +kernel, by decide +kernel⟩
theorem nd_Program_inputs : List.Nodup n_Program_inputs := sc_Program_inputs.nd
def b_Program_inputs : Sts → M (Fl × Sts) :=
  (gRet (dFn listA (lCons (dAttr tab_own_inputs "own_inputs" (dVar 0)) lNil)))
def g_Program_inputs : List D → M D := runD 1 1 b_Program_inputs
theorem fo_Program_inputs {P : Program} {w : World} {K : PySem.W.Frag} {mg : Str → Option Value} {base : Heap} (T : Txt K w mg) (A_own_inputs : ∀ q ∈ tab_own_inputs, AOk P w K mg base 0 q.1 "own_inputs" q.2) (f : Addr) (fd : FuncData) (F : Fun K "inputs" "Program.inputs" s_Program_inputs f fd) : FnOk P w K mg base (L2.CX P w) 2 f fd ["self"] (DSp K mg g_Program_inputs) :=
  fn_d (k := 1) F sc_Program_inputs (by decide) fun cdv A outer s H E fa hr => by
    have hu65 : (A.deeper (envOfC "Program.inputs" (defScope s_Program_inputs) s.heap.objs.size f cdv)).units + 65 < cLine := by
      have := hr.un
      omega
    have hu64 : (A.deeper (envOfC "Program.inputs" (defScope s_Program_inputs) s.heap.objs.size f cdv)).units + 64 < cLine := by omega
    have hu1 : (A.deeper (envOfC "Program.inputs" (defScope s_Program_inputs) s.heap.objs.size f cdv)).units + 1 < cLine := by omega
    exact (ssj_one (sj_ret (ed_callTy (call_listA rfl) ok_listA T.list_ (ld_cons (ed_attr (tab := tab_own_inputs) (hr.mono (by decide)) A_own_inputs (ed_var 0)) ld_nil))))
def mtab_inputs : List (Str × (List D → M D)) := [("Program", g_Program_inputs)]
def tab_own_steps : List (Str × AK) := [("Program", .fld)]
abbrev s_Program_steps : Stmt := mthS 44 4
abbrev n_Program_steps : List Str := ["self"]
theorem sc_Program_steps : FnScope n_Program_steps ["self"] (defScope s_Program_steps) := ⟨rfl, rfl, rfl, by decide +kernel, rfl, by decide +kernel, by decide +kernel⟩
theorem nd_Program_steps : List.Nodup n_Program_steps := sc_Program_steps.nd
def b_Program_steps : Sts → M (Fl × Sts) :=
  (gRet (dFn listA (lCons (dAttr tab_own_steps "own_steps" (dVar 0)) lNil)))
def g_Program_steps : List D → M D := runD 1 1 b_Program_steps
theorem fo_Program_steps {P : Program} {w : World} {K : PySem.W.Frag} {mg : Str → Option Value} {base : Heap} (T : Txt K w mg) (A_own_steps : ∀ q ∈ tab_own_steps, AOk P w K mg base 0 q.1 "own_steps" q.2) (f : Addr) (fd : FuncData) (F : Fun K "steps" "Program.steps" s_Program_steps f fd) : FnOk P w K mg base (L2.CX P w) 2 f fd ["self"] (DSp K mg g_Program_steps) :=
  fn_d (k := 1) F sc_Program_steps (by decide) fun cdv A outer s H E fa hr => by
    have hu65 : (A.deeper (envOfC "Program.steps" (defScope s_Program_steps) s.heap.objs.size f cdv)).units + 65 < cLine := by
      have := hr.un
      omega
    have hu64 : (A.deeper (envOfC "Program.steps" (defScope s_Program_steps) s.heap.objs.size f cdv)).units + 64 < cLine := by omega
    have hu1 : (A.deeper (envOfC "Program.steps" (defScope s_Program_steps) s.heap.objs.size f cdv)).units + 1 < cLine := by omega
    exact (ssj_one (sj_ret (ed_callTy (call_listA rfl) ok_listA T.list_ (ld_cons (ed_attr (tab := tab_own_steps) (hr.mono (by decide)) A_own_steps (ed_var 0)) ld_nil))))
def mtab_steps : List (Str × (List D → M D)) := [("Program", g_Program_steps)]
abbrev s_told_behind : Stmt := topS 46
abbrev n_told_behind : List Str := ["step", "counts", "kind", "many", "axis", "grown", "one"]
theorem sc_told_behind : FnScope n_told_behind ["step", "counts"] (defScope s_told_behind) := ⟨rfl, rfl, rfl, by decide +kernel, rfl, by decide +kernel, by decide +kernel⟩
theorem nd_told_behind : List.Nodup n_told_behind := sc_told_behind.nd
def b_told_behind : Sts → M (Fl × Sts) :=
  (gSeq (gAsgT (bTup (bCons (bName 2) (bCons (bName 3) bNil))) (vMask (dFn mkTup (lCons (dOp ixD (dVar 0) (dC (.int 1))) (lCons (dOp ixD (dVar 1) (dC (.int 0))) lNil)))))
    (gSeq (gIf (cOr (cTru (dFn anyD (lCons (dNew (dLc (iAny (dVar 1)) (bName 6) cYes (dOp neD (dVar 6) (dVar 3)))) lNil))) (cCmp eqD (dVar 2) (dC (.str "stretch")))) (gRet (dC .non)) gNext)
    (gSeq (gIf (cCmp eqD (dVar 2) (dC (.str "product"))) (gRet (dIf (cCmp geD (dVar 3) (dC (.int 2))) (dVar 3) (dC .non))) gNext)
    (gSeq (gIf (cCmp eqD (dVar 2) (dC (.str "transpose"))) (gRet (dIf (cCmp leD (dFn lenD (lCons (dOp ixD (dVar 0) (dC (.int 3))) lNil)) (dVar 3)) (dVar 3) (dC .non))) gNext)
    (gSeq (gIf (cCmp inD (dVar 2) (dFn mkTup (lCons (dC (.str "map")) (lCons (dC (.str "combine")) (lCons (dC (.str "into")) lNil))))) (gRet (dVar 3)) gNext)
    (gSeq (gSet 4 (vMask (dIf (cCmp eqD (dVar 2) (dC (.str "reduce"))) (dOp ixD (dVar 0) (dC (.int 4))) (dOp ixD (dVar 0) (dC (.int 3))))))
    (gSeq (gSet 5 (vMask (dIf (cCmp inD (dVar 2) (dFn mkTup (lCons (dC (.str "insert")) (lCons (dC (.str "stack")) lNil)))) (dC (.int 1)) (dC (.int 0)))))
    (gSeq (gIf (cNot (cChain leD ltD (dOp subD (dUn negD (dVar 3)) (dVar 5)) (dVar 4) (dC (.int 0)))) (gRet (dC .non)) gNext)
    (gSeq (gIf (cCmp eqD (dVar 2) (dC (.str "reduce"))) (gRet (dIf (cTru (dOp ixD (dVar 0) (dC (.int 5)))) (dVar 3) (dOp subD (dVar 3) (dC (.int 1))))) gNext)
    (gRet (dIf (cCmp eqD (dVar 5) (dC (.int 1))) (dOp addD (dVar 3) (dC (.int 1))) (dOp subD (dVar 3) (dC (.int 1))))))))))))))
def g_told_behind : List D → M D := runD 7 2 b_told_behind
theorem fo_told_behind {P : Program} {w : World} {K : PySem.W.Frag} {mg : Str → Option Value} {base : Heap} (T : Txt K w mg)  (f : Addr) (fd : FuncData) (F : Fun K "told_behind" "told_behind" s_told_behind f fd) : FnOk P w K mg base (L2.CX P w) 1 f fd ["step", "counts"] (DSp K mg g_told_behind) :=
  fn_d (k := 0) F sc_told_behind (by decide) fun cdv A outer s H E fa hr => by
    have hu65 : (A.deeper (envOfC "told_behind" (defScope s_told_behind) s.heap.objs.size f cdv)).units + 65 < cLine := by
      have := hr.un
      omega
    have hu64 : (A.deeper (envOfC "told_behind" (defScope s_told_behind) s.heap.objs.size f cdv)).units + 64 < cLine := by omega
    have hu1 : (A.deeper (envOfC "told_behind" (defScope s_told_behind) s.heap.objs.size f cdv)).units + 1 < cLine := by omega
    exact (ssj_cons (sj_asgT (vj_mask (ed_tup (ld_cons (ed_ix hu1 (ed_var 0) ed_int) (ld_cons (ed_ix hu1 (ed_var 1) ed_int) ld_nil)))) (tj_tup rfl (tsj_cons (tj_name (i := 2) nd_told_behind) (tsj_cons (tj_name (i := 3) nd_told_behind) tsj_nil)) (bCons_len (bCons_len bNil_len))))
    (ssj_cons (sj_if (TWD.td (twd_or (td_tru (ed_callB (cr_any rfl) ok_any T.any_ (ld_cons (ND.ed (nd_lc rfl nd_told_behind (ij_any (ed_var 1)) (blkOk_by (own := [("one", 6)]) (N := n_told_behind) (sc := defScope s_told_behind) (by decide +kernel)) (by decide) (by decide) (fun _ _ _ _ _ => (tj_name (i := 6) nd_told_behind)) (fun _ _ _ _ _ => ptd_nil) (fun _ _ _ _ _ => (ed_cmp (opr_ne hu64) ok_ne (ed_var 6) (ed_var 3))))) ld_nil))) (twd_or1 (td_cmp (opr_eq hu64) ok_eq (ed_var 2) ed_str)))) (ssj_one (sj_ret ed_non)) ssj_nil)
    (ssj_cons (sj_if (td_cmp (opr_eq hu64) ok_eq (ed_var 2) ed_str) (ssj_one (sj_ret (ed_if (td_cmp op_ge ok_ge (ed_var 3) ed_int) (ed_var 3) ed_non))) ssj_nil)
    (ssj_cons (sj_if (td_cmp (opr_eq hu64) ok_eq (ed_var 2) ed_str) (ssj_one (sj_ret (ed_if (td_cmp op_le ok_le (ed_callB crl_len ok_len T.len_ (ld_cons (ed_ix hu1 (ed_var 0) ed_int) ld_nil)) (ed_var 3)) (ed_var 3) ed_non))) ssj_nil)
    (ssj_cons (sj_if (td_cmp (opr_in hu65) ok_in (ed_var 2) (ed_tup (ld_cons ed_str (ld_cons ed_str (ld_cons ed_str ld_nil))))) (ssj_one (sj_ret (ed_var 3))) ssj_nil)
    (ssj_cons (sj_set (i := 4) nd_told_behind (vj_mask (ed_if (td_cmp (opr_eq hu64) ok_eq (ed_var 2) ed_str) (ed_ix hu1 (ed_var 0) ed_int) (ed_ix hu1 (ed_var 0) ed_int))))
    (ssj_cons (sj_set (i := 5) nd_told_behind (vj_mask (ed_if (td_cmp (opr_in hu65) ok_in (ed_var 2) (ed_tup (ld_cons ed_str (ld_cons ed_str ld_nil)))) ed_int ed_int)))
    (ssj_cons (sj_if (td_not (td_chain op_le ok_le op_lt ok_lt (ed_op op_sub ok_sub (ed_un un_neg ok_neg (ed_var 3)) (ed_var 5)) (ed_var 4) ed_int)) (ssj_one (sj_ret ed_non)) ssj_nil)
    (ssj_cons (sj_if (td_cmp (opr_eq hu64) ok_eq (ed_var 2) ed_str) (ssj_one (sj_ret (ed_if (td_tru (ed_ix hu1 (ed_var 0) ed_int)) (ed_var 3) (ed_op op_sub ok_sub (ed_var 3) ed_int)))) ssj_nil)
    (ssj_one (sj_ret (ed_if (td_cmp (opr_eq hu64) ok_eq (ed_var 5) ed_int) (ed_op opr_add ok_add (ed_var 3) ed_int) (ed_op op_sub ok_sub (ed_var 3) ed_int)))))))))))))
theorem cal_told_behind {P : Program} {w : World} {K : PySem.W.Frag} {mg : Str → Option Value} {base : Heap} (T : Txt K w mg) (D0 : Dff K mg "told_behind" ["step", "counts"] s_told_behind)  : Cal P w K mg base 1 "told_behind" ["step", "counts"] g_told_behind := cal_of D0 (fo_told_behind T)
abbrev s_takes_fronts : Stmt := topS 47
abbrev n_takes_fronts : List Str := ["program", "counts", "step", "many", "name", "shape"]
theorem sc_takes_fronts : FnScope n_takes_fronts ["program"] (defScope s_takes_fronts) := ⟨rfl, rfl, rfl, by decide +kernel, rfl, by decide +kernel, by decide +kernel⟩
theorem nd_takes_fronts : List.Nodup n_takes_fronts := sc_takes_fronts.nd
def b_takes_fronts : Sts → M (Fl × Sts) :=
  (gSeq (gIf (cNot (cTru (dAttr tab_is_steady "is_steady" (dVar 0)))) (gRet (dC (.bl false))) gNext)
    (gSeq (gSet 1 (vNewDc (dDc (iAny (dMeth mtab_inputs "inputs" (dVar 0) lNil)) (bTup (bCons (bName 4) (bCons (bName 5) bNil))) cYes (dVar 4) (dFn lenD (lCons (dVar 5) lNil)))))
    (gSeq (gFor (iAny (dMeth mtab_steps "steps" (dVar 0) lNil)) (bName 2) (gSeq (gSet 3 (vViewT (dCall g_told_behind (lCons (dVar 2) (lCons (dNew (dLc (iAny (dCall g_operands (lCons (dVar 2) lNil))) (bName 4) cYes (dOp ixD (dVar 1) (dVar 4)))) lNil)))))
    (gSeq (gIf (cCmp isD (dVar 3) (dC .non)) (gRet (dC (.bl false))) gNext)
    (gStD 1 (vMask (dVar 3)) (vMask (dOp ixD (dVar 2) (dC (.int 0))))))))
    (gFrz 1 (gRet (dC (.bl true)))))))
def g_takes_fronts : List D → M D := runD 6 1 b_takes_fronts
theorem fo_takes_fronts {P : Program} {w : World} {K : PySem.W.Frag} {mg : Str → Option Value} {base : Heap} (T : Txt K w mg) (A_is_steady : ∀ q ∈ tab_is_steady, AOk P w K mg base 2 q.1 "is_steady" q.2) (M_inputs : ∀ q ∈ mtab_inputs, MOk P w K mg base 2 q.1 "inputs" q.2) (M_steps : ∀ q ∈ mtab_steps, MOk P w K mg base 2 q.1 "steps" q.2) (C_operands : Cal P w K mg base 1 "operands" ["step"] g_operands) (C_told_behind : Cal P w K mg base 1 "told_behind" ["step", "counts"] g_told_behind) (f : Addr) (fd : FuncData) (F : Fun K "takes_fronts" "takes_fronts" s_takes_fronts f fd) : FnOk P w K mg base (L2.CX P w) 4 f fd ["program"] (DSp K mg g_takes_fronts) :=
  fn_d (k := 3) F sc_takes_fronts (by decide) fun cdv A outer s H E fa hr => by
    have hu65 : (A.deeper (envOfC "takes_fronts" (defScope s_takes_fronts) s.heap.objs.size f cdv)).units + 65 < cLine := by
      have := hr.un
      omega
    have hu64 : (A.deeper (envOfC "takes_fronts" (defScope s_takes_fronts) s.heap.objs.size f cdv)).units + 64 < cLine := by omega
    have hu1 : (A.deeper (envOfC "takes_fronts" (defScope s_takes_fronts) s.heap.objs.size f cdv)).units + 1 < cLine := by omega
    exact (ssj_cons (sj_if (td_not (td_tru (ed_attr (tab := tab_is_steady) (hr.mono (by decide)) A_is_steady (ed_var 0)))) (ssj_one (sj_ret ed_bl)) ssj_nil)
    (ssj_cons (sj_set (i := 1) nd_takes_fronts (vj_dc rfl nd_takes_fronts (ij_any (ed_meth0 (tab := mtab_inputs) (hr.mono (by decide)) pass_def M_inputs (ed_var 0))) (blkOk_by (own := [("name", 4), ("shape", 5)]) (N := n_takes_fronts) (sc := defScope s_takes_fronts) (by decide +kernel)) (by decide) (by decide) (fun _ _ _ _ _ => (tj_tup rfl (tsj_cons (tj_name (i := 4) nd_takes_fronts) (tsj_cons (tj_name (i := 5) nd_takes_fronts) tsj_nil)) (bCons_len (bCons_len bNil_len)))) (fun _ _ _ _ _ => ptd_nil) (fun _ _ _ _ _ => (ed_var 4)) (fun _ _ _ _ _ => (ed_callB crl_len ok_len T.len_ (ld_cons (ed_var 5) ld_nil)))))
    (ssj_cons (sj_for (passes_of rfl) rfl (ij_any (ed_meth0 (tab := mtab_steps) (hr.mono (by decide)) pass_def M_steps (ed_var 0))) (tj_name (i := 2) nd_takes_fronts) (ssj_cons (sj_set (i := 3) nd_takes_fronts (vj_viewT (ed_cal C_told_behind (hr.mono (by decide)) pass_def (ld_cons (ed_var 2) (ld_cons (ND.ed (nd_lc rfl nd_takes_fronts (ij_any (ed_cal C_operands (hr.mono (by decide)) pass_def (ld_cons (ed_var 2) ld_nil))) (blkOk_by (own := [("name", 4)]) (N := n_takes_fronts) (sc := defScope s_takes_fronts) (by decide +kernel)) (by decide) (by decide) (fun _ _ _ _ _ => (tj_name (i := 4) nd_takes_fronts)) (fun _ _ _ _ _ => ptd_nil) (fun _ _ _ _ _ => (ed_ix hu1 (ed_var 1) (ed_var 4))))) ld_nil)))))
    (ssj_cons (sj_if (td_cmp op_isN ok_is (ed_var 3) ed_non) (ssj_one (sj_ret ed_bl)) ssj_nil)
    (ssj_one (sj_stD (i := 1) hu1 (vj_mask (ed_var 3)) (vj_mask (ed_ix hu1 (ed_var 2) ed_int)) (pv 1))))))
    (ssj_frz 1 (ssj_one (sj_ret ed_bl))))))
theorem cal_takes_fronts {P : Program} {w : World} {K : PySem.W.Frag} {mg : Str → Option Value} {base : Heap} (T : Txt K w mg) (D0 : Dff K mg "takes_fronts" ["program"] s_takes_fronts) (A_is_steady : ∀ q ∈ tab_is_steady, AOk P w K mg base 2 q.1 "is_steady" q.2) (M_inputs : ∀ q ∈ mtab_inputs, MOk P w K mg base 2 q.1 "inputs" q.2) (M_steps : ∀ q ∈ mtab_steps, MOk P w K mg base 2 q.1 "steps" q.2) (C_operands : Cal P w K mg base 1 "operands" ["step"] g_operands) (C_told_behind : Cal P w K mg base 1 "told_behind" ["step", "counts"] g_told_behind) : Cal P w K mg base 4 "takes_fronts" ["program"] g_takes_fronts := cal_of D0 (fo_takes_fronts T A_is_steady M_inputs M_steps C_operands C_told_behind)
abbrev s_law_same : Stmt := topS 53
abbrev n_law_same : List Str := ["_law_found", "_law_due", "_law_key", "_law_k"]
theorem sc_law_same : FnScope n_law_same ["_law_found", "_law_due"] (defScope s_law_same) := ⟨rfl, rfl, rfl, by decide +kernel, rfl, by decide +kernel, by decide +kernel⟩
theorem nd_law_same : List.Nodup n_law_same := sc_law_same.nd
def b_law_same (rec : List D → M D) : Sts → M (Fl × Sts) :=
  (gSeq (gIf (cTru (dFn isiD (lCons (dVar 1) (lCons (dC (.opq (.ty "dict"))) lNil)))) (gSeq (gIf (cOr (cNot (cTru (dFn isiD (lCons (dVar 0) (lCons (dC (.opq (.ty "dict"))) lNil))))) (cCmp neD (dFn lenD (lCons (dVar 0) lNil)) (dFn lenD (lCons (dVar 1) lNil)))) (gRet (dC (.bl false))) gNext)
    (gRet (dFn allD (lCons (dNew (dLc (keysD 1) (bName 2) cYes (dAnd (dOp inD (dVar 2) (dVar 0)) (dCall rec (lCons (dOp ixD (dVar 0) (dVar 2)) (lCons (dOp ixD (dVar 1) (dVar 2)) lNil)))))) lNil)))) gNext)
    (gSeq (gIf (cTru (dIsi ["list", "tuple"] (dVar 1))) (gSeq (gIf (cOr (cCmp neD (dFn isiD (lCons (dVar 0) (lCons (dC (.opq (.ty "list"))) lNil))) (dFn isiD (lCons (dVar 1) (lCons (dC (.opq (.ty "list"))) lNil)))) (cNot (cTru (dIsi ["list", "tuple"] (dVar 0))))) (gRet (dC (.bl false))) gNext)
    (gRet (dAnd (dOp eqD (dFn lenD (lCons (dVar 0) lNil)) (dFn lenD (lCons (dVar 1) lNil))) (dFn allD (lCons (dNew (dLc (iFn rng1 (lCons (dFn lenD (lCons (dVar 1) lNil)) lNil)) (bName 3) cYes (dCall rec (lCons (dOp ixD (dVar 0) (dVar 3)) (lCons (dOp ixD (dVar 1) (dVar 3)) lNil))))) lNil))))) gNext)
    (gRet (dAnd (dOp eqD (dVar 0) (dVar 1)) (dOp eqD (dFn reprD (lCons (dVar 0) lNil)) (dFn reprD (lCons (dVar 1) lNil)))))))
def g_same : Nat → List D → M D
  | 0 => fun _ => M.bad
  | n + 1 => runD 4 2 (b_law_same (g_same n))
theorem cal_same {P : Program} {w : World} {K : PySem.W.Frag} {mg : Str → Option Value} {base : Heap} (T : Txt K w mg) (D0 : Dff K mg "_law_same" ["_law_found", "_law_due"] s_law_same) : ∀ n : Nat, Cal P w K mg base (n + 1) "_law_same" ["_law_found", "_law_due"] (g_same n)
  | 0 => cal_bad D0 1
  | n + 1 => cal_of D0 fun f fd F => fn_d (k := n + 1) F sc_law_same (by decide) fun cdv A outer s H E fa hr => by
    have C_rec := cal_same (w := w) (P := P) (base := base) T D0 n
    have hu65 : (A.deeper (envOfC "_law_same" (defScope s_law_same) s.heap.objs.size f cdv)).units + 65 < cLine := by
      have := hr.un
      omega
    have hu64 : (A.deeper (envOfC "_law_same" (defScope s_law_same) s.heap.objs.size f cdv)).units + 64 < cLine := by omega
    have hu1 : (A.deeper (envOfC "_law_same" (defScope s_law_same) s.heap.objs.size f cdv)).units + 1 < cLine := by omega
    exact (ssj_cons (sj_if (td_tru (ed_callB call_isi ok_isi T.isinstance_ (ld_cons (ed_var 1) (ld_cons (ed_ty "dict" T.dict_) ld_nil)))) (ssj_cons (sj_if (TWD.td (twd_or (td_not (td_tru (ed_callB call_isi ok_isi T.isinstance_ (ld_cons (ed_var 0) (ld_cons (ed_ty "dict" T.dict_) ld_nil))))) (twd_or1 (td_cmp (opr_ne hu64) ok_ne (ed_callB crl_len ok_len T.len_ (ld_cons (ed_var 0) ld_nil)) (ed_callB crl_len ok_len T.len_ (ld_cons (ed_var 1) ld_nil)))))) (ssj_one (sj_ret ed_bl)) ssj_nil)
    (ssj_one (sj_ret (ed_callB (cr_all rfl) ok_all T.all_ (ld_cons (ND.ed (nd_lcKeys rfl nd_law_same (pv 1) (blkOk_by (own := [("_law_key", 2)]) (N := n_law_same) (sc := defScope s_law_same) (by decide +kernel)) (by decide) (by decide) (fun _ _ _ _ _ => (tj_name (i := 2) nd_law_same)) (fun _ _ _ _ _ => ptd_nil) (fun _ _ _ _ _ => (ed_and (ed_cmp (opr_in hu65) ok_in (ed_var 2) (ed_var 0)) (ed_one (ed_cal C_rec (hr.mono (by omega)) pass_blk (ld_cons (ed_ix hu1 (ed_var 0) (ed_var 2)) (ld_cons (ed_ix hu1 (ed_var 1) (ed_var 2)) ld_nil)))))))) ld_nil))))) ssj_nil)
    (ssj_cons (sj_if (td_tru (ed_isi2 (ed_var 1) T.isinstance_ T.list_ T.tuple_)) (ssj_cons (sj_if (TWD.td (twd_or (td_cmp (opr_ne hu64) ok_ne (ed_callB call_isi ok_isi T.isinstance_ (ld_cons (ed_var 0) (ld_cons (ed_ty "list" T.list_) ld_nil))) (ed_callB call_isi ok_isi T.isinstance_ (ld_cons (ed_var 1) (ld_cons (ed_ty "list" T.list_) ld_nil)))) (twd_or1 (td_not (td_tru (ed_isi2 (ed_var 0) T.isinstance_ T.list_ T.tuple_)))))) (ssj_one (sj_ret ed_bl)) ssj_nil)
    (ssj_one (sj_ret (ed_and (ed_cmp (opr_eq hu64) ok_eq (ed_callB crl_len ok_len T.len_ (ld_cons (ed_var 0) ld_nil)) (ed_callB crl_len ok_len T.len_ (ld_cons (ed_var 1) ld_nil))) (ed_one (ed_callB (cr_all rfl) ok_all T.all_ (ld_cons (ND.ed (nd_lc rfl nd_law_same (ij_range1 T.range_ (ld_cons (ed_callB crl_len ok_len T.len_ (ld_cons (ed_var 1) ld_nil)) ld_nil)) (blkOk_by (own := [("_law_k", 3)]) (N := n_law_same) (sc := defScope s_law_same) (by decide +kernel)) (by decide) (by decide) (fun _ _ _ _ _ => (tj_name (i := 3) nd_law_same)) (fun _ _ _ _ _ => ptd_nil) (fun _ _ _ _ _ => (ed_cal C_rec (hr.mono (by omega)) pass_blk (ld_cons (ed_ix hu1 (ed_var 0) (ed_var 3)) (ld_cons (ed_ix hu1 (ed_var 1) (ed_var 3)) ld_nil)))))) ld_nil))))))) ssj_nil)
    (ssj_one (sj_ret (ed_and (ed_cmp (opr_eq hu64) ok_eq (ed_var 0) (ed_var 1)) (ed_one (ed_cmp (opr_eq hu64) ok_eq (ed_callB cr_repr ok_repr T.repr_ (ld_cons (ed_var 0) ld_nil)) (ed_callB cr_repr ok_repr T.repr_ (ld_cons (ed_var 1) ld_nil)))))))))
def g_law_same : List D → M D := g_same 8
theorem cal_law_same {P : Program} {w : World} {K : PySem.W.Frag} {mg : Str → Option Value} {base : Heap} (T : Txt K w mg) (D0 : Dff K mg "_law_same" ["_law_found", "_law_due"] s_law_same) : Cal P w K mg base 9 "_law_same" ["_law_found", "_law_due"] g_law_same := cal_same T D0 8
abbrev s_law_feed : Stmt := topS 49
abbrev n_law_feed : List Str := ["_law_script", "_law_stir", "_law_cell"]
theorem sc_law_feed : FnScope n_law_feed ["_law_script"] (defScope s_law_feed) := ⟨rfl, rfl, rfl, by decide +kernel, rfl, by decide +kernel, by decide +kernel⟩
theorem nd_law_feed : List.Nodup n_law_feed := sc_law_feed.nd
def b_law_feed : Sts → M (Fl × Sts) :=
  (gSeq (gSet 1 (vMask (dC (.int 10019))))
    (gSeq (gFor (iAny (dSl (dVar 0) oNo (oSome (dC (.int 63))))) (bName 2) (gSet 1 (vMask (dOp modD (dFn intF (lCons (dOp addD (dOp addD (dOp mulD (dVar 1) (dC (.int 40961))) (dOp modD (dFn intF (lCons (dVar 2) lNil)) (dC (.int 2147483029)))) (dC (.int 77))) lNil)) (dC (.int 2147483477))))))
    (gRet (dFn mkLst (lCons (dFn listA (lCons (dSl (dVar 0) oNo (oSome (dC (.int 63)))) lNil)) (lCons (dC (.int 0)) (lCons (dC (.int 0)) (lCons (dC (.int 0)) (lCons (dVar 1) lNil)))))))))
def g_law_feed : List D → M D := runD 3 1 b_law_feed
theorem fo_law_feed {P : Program} {w : World} {K : PySem.W.Frag} {mg : Str → Option Value} {base : Heap} (T : Txt K w mg)  (f : Addr) (fd : FuncData) (F : Fun K "_law_feed" "_law_feed" s_law_feed f fd) : FnOk P w K mg base (L2.CX P w) 1 f fd ["_law_script"] (DSp K mg g_law_feed) :=
  fn_d (k := 0) F sc_law_feed (by decide) fun cdv A outer s H E fa hr => by
    have hu65 : (A.deeper (envOfC "_law_feed" (defScope s_law_feed) s.heap.objs.size f cdv)).units + 65 < cLine := by
      have := hr.un
      omega
    have hu64 : (A.deeper (envOfC "_law_feed" (defScope s_law_feed) s.heap.objs.size f cdv)).units + 64 < cLine := by omega
    have hu1 : (A.deeper (envOfC "_law_feed" (defScope s_law_feed) s.heap.objs.size f cdv)).units + 1 < cLine := by omega
    exact (ssj_cons (sj_set (i := 1) nd_law_feed (vj_mask ed_int))
    (ssj_cons (sj_for (passes_of rfl) rfl (ij_any (ed_slice (ed_var 0) oj_none (oj_some ed_int))) (tj_name (i := 2) nd_law_feed) (ssj_one (sj_set (i := 1) nd_law_feed (vj_mask (ed_op op_mod ok_mod (ed_callTy call_int1 ok_int T.int_ (ld_cons (ed_op opr_add ok_add (ed_op opr_add ok_add (ed_op opr_mul ok_mul (ed_var 1) ed_int) (ed_op op_mod ok_mod (ed_callTy call_int1 ok_int T.int_ (ld_cons (ed_var 2) ld_nil)) ed_int)) ed_int) ld_nil)) ed_int)))))
    (ssj_one (sj_ret (ed_lst (ld_cons (ed_callTy (call_listA rfl) ok_listA T.list_ (ld_cons (ed_slice (ed_var 0) oj_none (oj_some ed_int)) ld_nil)) (ld_cons ed_int (ld_cons ed_int (ld_cons ed_int (ld_cons (ed_var 1) ld_nil))))))))))
theorem cal_law_feed {P : Program} {w : World} {K : PySem.W.Frag} {mg : Str → Option Value} {base : Heap} (T : Txt K w mg) (D0 : Dff K mg "_law_feed" ["_law_script"] s_law_feed)  : Cal P w K mg base 1 "_law_feed" ["_law_script"] g_law_feed := cal_of D0 (fo_law_feed T)
abbrev s_law : Stmt := topS 64
abbrev n_law : List Str := ["_law_script", "_law_feed_here", "_law_turn", "_law_ins", "_law_moves", "_law_last", "_law_ones", "_law_more", "_law_looks", "_law_model", "_law_row"]
theorem sc_law : FnScope n_law ["_law_script"] (defScope s_law) := ⟨rfl, rfl, rfl, by decide +kernel, rfl, by decide +kernel, by decide +kernel⟩
theorem nd_law : List.Nodup n_law := sc_law.nd
def b_law : Sts → M (Fl × Sts) :=
  (gSeq (gFor (iFn rng1 (lCons (dC (.int 8)) lNil)) (bName 2) (gSeq (gAsgT (bTup (bCons (bName 3) (bCons (bName 4) bNil))) (vMask (dCall g_law_front_task (lCons (dVar 1) (lCons (dC (.int 5)) lNil)))))
    (gSeq (gPar 5 6 (vMask (dOp ixD (dOp ixD (dOp addD (dVar 3) (dVar 4)) (dUn negD (dC (.int 1)))) (dC (.int 0)))) (vMask (dNew (dLc (iAny (dOp addD (dVar 3) (dVar 4))) (bName 10) cYes (dOp ixD (dVar 10) (dC (.int 0)))))))
    (gSeq (gSet 7 (vMask (dFn mkLst (lCons (dFn mkLst lNil) (lCons (dFn mkLst (lCons (dFn mkTup (lCons (dC (.str "newone")) (lCons (dC (.str "reduce")) (lCons (dC (.str "f")) (lCons (dVar 5) (lCons (dOp subD (dCall g_law_draw (lCons (dVar 1) (lCons (dC (.int 8)) lNil))) (dC (.int 4))) (lCons (dC (.bl true)) lNil))))))) lNil)) (lCons (dFn mkLst (lCons (dFn mkTup (lCons (dC (.str "newone")) (lCons (dC (.str "squeeze")) (lCons (dVar 5) lNil)))) lNil)) lNil))))))
    (gSeq (gSet 7 (vMask (dOp addD (dVar 7) (dFn mkLst (lCons (dFn mkLst (lCons (dFn mkTup (lCons (dC (.str "newone")) (lCons (dC (.str "insert")) (lCons (dVar 5) (lCons (dOp subD (dCall g_law_draw (lCons (dVar 1) (lCons (dC (.int 8)) lNil))) (dC (.int 4))) lNil))))) lNil)) (lCons (dFn mkLst (lCons (dFn mkTup (lCons (dC (.str "newone")) (lCons (dC (.str "stretch")) (lCons (dVar 5) (lCons (dFn mkTup (lCons (dC (.int 1)) (lCons (dC (.int 1)) (lCons (dC (.int 1)) (lCons (dC (.int 1)) lNil))))) lNil))))) lNil)) lNil))))))
    (gSeq (gSet 7 (vMask (dOp addD (dVar 7) (dFn mkLst (lCons (dFn mkLst (lCons (dFn mkTup (lCons (dC (.str "newone")) (lCons (dC (.str "combine")) (lCons (dC (.str "f")) (lCons (dVar 5) (lCons (dCall g_law_of (lCons (dVar 1) (lCons (dVar 6) lNil))) lNil)))))) lNil)) (lCons (dFn mkLst (lCons (dFn mkTup (lCons (dC (.str "newone")) (lCons (dC (.str "product")) (lCons (dVar 5) (lCons (dVar 5) lNil))))) lNil)) lNil))))))
    (gSeq (gSet 7 (vMask (dOp addD (dVar 7) (dFn mkLst (lCons (dFn mkLst (lCons (dFn mkTup (lCons (dC (.str "newone")) (lCons (dC (.str "transpose")) (lCons (dVar 5) (lCons (dCall g_law_order (lCons (dVar 1) (lCons (dC (.int 3)) lNil))) lNil))))) lNil)) (lCons (dFn mkLst (lCons (dFn mkTup (lCons (dC (.str "newone")) (lCons (dC (.str "select")) (lCons (dVar 5) (lCons (dOp subD (dC (.int 0)) (dC (.int 1))) (lCons (dC (.int 0)) lNil)))))) lNil)) (lCons (dFn mkLst (lCons (dFn mkTup (lCons (dC (.str "newone")) (lCons (dC (.str "remove")) (lCons (dVar 5) (lCons (dOp subD (dCall g_law_draw (lCons (dVar 1) (lCons (dC (.int 8)) lNil))) (dC (.int 4))) lNil))))) lNil)) (lCons (dFn mkLst (lCons (dFn mkTup (lCons (dC (.str "newone")) (lCons (dC (.str "stack")) (lCons (dFn mkTup (lCons (dVar 5) (lCons (dCall g_law_of (lCons (dVar 1) (lCons (dVar 6) lNil))) lNil))) (lCons (dOp subD (dC (.int 0)) (dC (.int 1))) lNil))))) lNil)) lNil))))))))
    (gSeq (gSet 8 (vMask (dOp mulLD (dFn mkLst (lCons (dFn mkTup (lCons (dC (.str "unequal")) (lCons (dC (.str "a")) (lCons (dC (.int 1)) lNil)))) lNil)) (dFn intFB (lCons (dOp eqD (dCall g_law_draw (lCons (dVar 1) (lCons (dC (.int 8)) lNil))) (dC (.int 0))) lNil)))))
    (gSeq (gSet 9 (vMask (dFn mkTup (lCons (dVar 3) (lCons (dOp addD (dVar 4) (dCall g_law_of (lCons (dVar 1) (lCons (dVar 7) lNil)))) (lCons (dVar 8) lNil))))))
    (gIf (cNot (cTru (dCall g_law_same (lCons (dCall g_takes_fronts (lCons (dCall g_law_program (lCons (dVar 9) lNil)) lNil)) (lCons (dOp isnD (dCall g_law_counted (lCons (dVar 9) lNil)) (dC .non)) lNil))))) (gRet (dC (.bl false))) gNext))))))))))
    (gRet (dC (.bl true))))
theorem ok_law {P : Program} {w : World} {K : PySem.W.Frag} {mg : Str → Option Value} {base : Heap} (T : Txt K w mg) (C_law_front_task : Cal P w K mg base 5 "_law_front_task" ["_law_feed_here", "_law_many"] g_law_front_task) (C_law_draw : Cal P w K mg base 1 "_law_draw" ["_law_feed_here", "_law_upto"] g_law_draw) (C_law_of : Cal P w K mg base 2 "_law_of" ["_law_feed_here", "_law_items"] g_law_of) (C_law_order : Cal P w K mg base 3 "_law_order" ["_law_feed_here", "_law_rank"] g_law_order) (C_law_counted : Cal P w K mg base 2 "_law_counted" ["_law_model"] g_law_counted) (C_law_program : Cal P w K mg base 10 "_law_program" ["_law_model"] g_law_program) (C_takes_fronts : Cal P w K mg base 4 "takes_fronts" ["program"] g_takes_fronts) (C_law_same : Cal P w K mg base 9 "_law_same" ["_law_found", "_law_due"] g_law_same) (C_law_feed : Cal P w K mg base 1 "_law_feed" ["_law_script"] g_law_feed) {f : Addr} {fd : FuncData} (F : Fun K "law" "law" s_law f fd)
    (hff : ∀ ns s, ns.length ≤ 63 → g_law_feed [.scr ns] s = .ok (.lst (feedL (fs1 ns))) s)
    (hg : ∀ ns : List Int, ns.length ≤ 63 → ∃ ρ' s', b_law (.no :: .d .feed :: List.replicate 9 .no) (fs1 ns) = .ok (.rt (.bl true), ρ') s') : FnOk P w K mg base CX0 11 f fd ["_law_script"] (spLaw K) :=
  fn_law (k := 10) F sc_law rfl rfl (fun cdv A outer s H E hr => sj_set (i := 1) nd_law (vj_mask (ed_cal C_law_feed (hr.mono (by decide)) pass_def (ld_cons (ed_var 0) ld_nil)))) hff (fun cdv A outer s H E fa hr => by
    have hu65 : (A.deeper (envOfC "law" (defScope s_law) s.heap.objs.size f cdv)).units + 65 < cLine := by
      have := hr.un
      omega
    have hu64 : (A.deeper (envOfC "law" (defScope s_law) s.heap.objs.size f cdv)).units + 64 < cLine := by omega
    have hu1 : (A.deeper (envOfC "law" (defScope s_law) s.heap.objs.size f cdv)).units + 1 < cLine := by omega
    exact (ssj_cons (sj_for (passes_of rfl) rfl (ij_range1 T.range_ (ld_cons ed_int ld_nil)) (tj_name (i := 2) nd_law) (ssj_cons (sj_asgT (vj_mask (ed_cal C_law_front_task (hr.mono (by decide)) pass_def (ld_cons (ed_var 1) (ld_cons ed_int ld_nil)))) (tj_tup rfl (tsj_cons (tj_name (i := 3) nd_law) (tsj_cons (tj_name (i := 4) nd_law) tsj_nil)) (bCons_len (bCons_len bNil_len))))
    (ssj_cons (sj_par (i := 5) (j := 6) rfl nd_law (vj_mask (ed_ix hu1 (ed_ix hu1 (ed_op opr_add ok_add (ed_var 3) (ed_var 4)) (ed_un un_neg ok_neg ed_int)) ed_int)) (vj_mask (ND.ed (nd_lc rfl nd_law (ij_any (ed_op opr_add ok_add (ed_var 3) (ed_var 4))) (blkOk_by (own := [("_law_row", 10)]) (N := n_law) (sc := defScope s_law) (by decide +kernel)) (by decide) (by decide) (fun _ _ _ _ _ => (tj_name (i := 10) nd_law)) (fun _ _ _ _ _ => ptd_nil) (fun _ _ _ _ _ => (ed_ix hu1 (ed_var 10) ed_int))))))
    (ssj_cons (sj_set (i := 7) nd_law (vj_mask (ed_lst (ld_cons (ed_lst ld_nil) (ld_cons (ed_lst (ld_cons (ed_tup (ld_cons ed_str (ld_cons ed_str (ld_cons ed_str (ld_cons (ed_var 5) (ld_cons (ed_op op_sub ok_sub (ed_cal C_law_draw (hr.mono (by decide)) pass_def (ld_cons (ed_var 1) (ld_cons ed_int ld_nil))) ed_int) (ld_cons ed_bl ld_nil))))))) ld_nil)) (ld_cons (ed_lst (ld_cons (ed_tup (ld_cons ed_str (ld_cons ed_str (ld_cons (ed_var 5) ld_nil)))) ld_nil)) ld_nil))))))
    (ssj_cons (sj_set (i := 7) nd_law (vj_mask (ed_op opr_add ok_add (ed_var 7) (ed_lst (ld_cons (ed_lst (ld_cons (ed_tup (ld_cons ed_str (ld_cons ed_str (ld_cons (ed_var 5) (ld_cons (ed_op op_sub ok_sub (ed_cal C_law_draw (hr.mono (by decide)) pass_def (ld_cons (ed_var 1) (ld_cons ed_int ld_nil))) ed_int) ld_nil))))) ld_nil)) (ld_cons (ed_lst (ld_cons (ed_tup (ld_cons ed_str (ld_cons ed_str (ld_cons (ed_var 5) (ld_cons (ed_tup (ld_cons ed_int (ld_cons ed_int (ld_cons ed_int (ld_cons ed_int ld_nil))))) ld_nil))))) ld_nil)) ld_nil))))))
    (ssj_cons (sj_set (i := 7) nd_law (vj_mask (ed_op opr_add ok_add (ed_var 7) (ed_lst (ld_cons (ed_lst (ld_cons (ed_tup (ld_cons ed_str (ld_cons ed_str (ld_cons ed_str (ld_cons (ed_var 5) (ld_cons (ed_cal C_law_of (hr.mono (by decide)) pass_def (ld_cons (ed_var 1) (ld_cons (ed_var 6) ld_nil))) ld_nil)))))) ld_nil)) (ld_cons (ed_lst (ld_cons (ed_tup (ld_cons ed_str (ld_cons ed_str (ld_cons (ed_var 5) (ld_cons (ed_var 5) ld_nil))))) ld_nil)) ld_nil))))))
    (ssj_cons (sj_set (i := 7) nd_law (vj_mask (ed_op opr_add ok_add (ed_var 7) (ed_lst (ld_cons (ed_lst (ld_cons (ed_tup (ld_cons ed_str (ld_cons ed_str (ld_cons (ed_var 5) (ld_cons (ed_cal C_law_order (hr.mono (by decide)) pass_def (ld_cons (ed_var 1) (ld_cons ed_int ld_nil))) ld_nil))))) ld_nil)) (ld_cons (ed_lst (ld_cons (ed_tup (ld_cons ed_str (ld_cons ed_str (ld_cons (ed_var 5) (ld_cons (ed_op op_sub ok_sub ed_int ed_int) (ld_cons ed_int ld_nil)))))) ld_nil)) (ld_cons (ed_lst (ld_cons (ed_tup (ld_cons ed_str (ld_cons ed_str (ld_cons (ed_var 5) (ld_cons (ed_op op_sub ok_sub (ed_cal C_law_draw (hr.mono (by decide)) pass_def (ld_cons (ed_var 1) (ld_cons ed_int ld_nil))) ed_int) ld_nil))))) ld_nil)) (ld_cons (ed_lst (ld_cons (ed_tup (ld_cons ed_str (ld_cons ed_str (ld_cons (ed_tup (ld_cons (ed_var 5) (ld_cons (ed_cal C_law_of (hr.mono (by decide)) pass_def (ld_cons (ed_var 1) (ld_cons (ed_var 6) ld_nil))) ld_nil))) (ld_cons (ed_op op_sub ok_sub ed_int ed_int) ld_nil))))) ld_nil)) ld_nil))))))))
    (ssj_cons (sj_set (i := 8) nd_law (vj_mask (ed_op op_rep ok_mulL (ed_lst (ld_cons (ed_tup (ld_cons ed_str (ld_cons ed_str (ld_cons ed_int ld_nil)))) ld_nil)) (ed_callTy call_int1 ok_intFB T.int_ (ld_cons (ed_cmp (opr_eq hu64) ok_eq (ed_cal C_law_draw (hr.mono (by decide)) pass_def (ld_cons (ed_var 1) (ld_cons ed_int ld_nil))) ed_int) ld_nil)))))
    (ssj_cons (sj_set (i := 9) nd_law (vj_mask (ed_tup (ld_cons (ed_var 3) (ld_cons (ed_op opr_add ok_add (ed_var 4) (ed_cal C_law_of (hr.mono (by decide)) pass_def (ld_cons (ed_var 1) (ld_cons (ed_var 7) ld_nil)))) (ld_cons (ed_var 8) ld_nil))))))
    (ssj_one (sj_if (td_not (td_tru (ed_cal C_law_same (hr.mono (by decide)) pass_def (ld_cons (ed_cal C_takes_fronts (hr.mono (by decide)) pass_def (ld_cons (ed_cal C_law_program (hr.mono (by decide)) pass_def (ld_cons (ed_var 9) ld_nil)) ld_nil)) (ld_cons (ed_cmp op_notN ok_isn (ed_cal C_law_counted (hr.mono (by decide)) pass_def (ld_cons (ed_var 9) ld_nil)) ed_non) ld_nil))))) (ssj_one (sj_ret ed_bl)) ssj_nil)))))))))))
    (ssj_one (sj_ret ed_bl)))) hg
end
end Q

set_option Elab.async false
set_option linter.all false
set_option maxRecDepth 100000
set_option maxHeartbeats 4000000
local macro_rules | `(tactic| walk_at "rm") => `(tactic| repeat (first
  | with_reducible refine DL.Rm.step ?_
  | with_reducible refine DL.Rm.setDc ?_
  | with_reducible refine DL.Rm.vnewDc ?_
  | (with_reducible refine DL.tupsAnd ?h ?_; (case h => first | rfl | (simp only [DL.tupsB, DL.tupsL]; done) | (simp [DL.tupsB, DL.tupsL]; done)))
  | with_reducible refine DL.Rm.make ?_
  | with_reducible refine DL.Rm.sortSet2 ?_
  | (with_reducible refine DL.Rm.par3 ?h ?_; (case h => simp only [List.length_cons, List.length_nil]; omega))
  | (with_reducible refine DL.Rm.par ?h ?_; (case h => simp only [List.length_cons, List.length_nil]; omega))
  | (with_reducible refine DL.Rm.ifT ?h ?_; (case h => first | decide | decide +kernel | (simp; done)))
  | (with_reducible refine DL.Rm.ifF ?h ?_; (case h => first | decide | decide +kernel | (simp; done)))
  | (with_reducible refine DL.Rm.chainT ?h ?_; (case h => first | decide | decide +kernel | (simp; done)))
  | (with_reducible refine DL.Rm.chainF ?h ?_; (case h => first | decide | decide +kernel | (simp; done)))
  | with_reducible refine DL.Rm.get2 ?_
  | with_reducible refine DL.Rm.get2k ?_
  | (with_reducible refine DL.Rm.rng1 ?h ?_; (case h => omega))
  | with_reducible refine DL.Rm.rng1 ?_ ?_
  | (with_reducible refine DL.Rm.rng2 ?h ?_; (case h => omega))
  | with_reducible refine DL.Rm.rng2 ?_ ?_
  | (with_reducible refine DL.Rm.modp ?h ?_; (case h => omega))
  | with_reducible refine DL.Rm.modp ?_ ?_
  | (with_reducible refine DL.Rm.mulp ?h ?_; (case h => omega))
  | with_reducible refine DL.Rm.mulp ?_ ?_
  | (with_reducible refine DL.Rm.fdivp ?h ?_; (case h => omega))
  | with_reducible refine DL.Rm.fdivp ?_ ?_
  | with_reducible refine DL.Rm.addl ?_ ?_
  | with_reducible refine DL.Rm.addt ?_ ?_
  | with_reducible refine DL.Rm.app ?_ ?_
  | (with_reducible refine DL.Rm.slLhi ?h ?_; (case h => omega))
  | (with_reducible refine DL.Rm.slLlo ?h ?_; (case h => omega))
  | (with_reducible refine DL.Rm.slThi ?h ?_; (case h => omega))
  | (with_reducible refine DL.Rm.slTlo ?h ?_; (case h => omega))
  | (with_reducible refine DL.Rm.slS ?h ?_; (case h => omega))
  | with_reducible refine DL.Rm.slS ?_ ?_
  | (with_reducible refine DL.Rm.adds ?h ?_; (case h => omega))
  | with_reducible refine DL.Rm.adds ?_ ?_
  | (with_reducible refine DL.Rm.lenS ?h ?_; (case h => omega))
  | with_reducible refine DL.Rm.lenS ?_ ?_
  | (with_reducible refine DL.Rm.lift2 ?_; refine ⟨_, rfl, ?_⟩)))

namespace Q
open PySem PySem.Spec PyProof.Rows L2 DL
/-- data that a text may be compared by -/
def plnB : Nat → D → Prop
  | 0, _ => False
  | _ + 1, .non => True
  | _ + 1, .bl _ => True
  | _ + 1, .int i => i.natAbs.log2 < 1920
  | _ + 1, .str x => (reprText x).length ≤ sizeLine
  | n + 1, .tup xs => xs.length ≤ sizeLine ∧ ∀ x, x ∈ xs → plnB n x
  | n + 1, .lst xs => xs.length ≤ sizeLine ∧ ∀ x, x ∈ xs → plnB n x
  | n + 1, .dic kvs => kvs.length ≤ sizeLine ∧ (kvs.map (·.1)).Nodup ∧ ∀ kv, kv ∈ kvs → plnB n kv.2
  | _ + 1, _ => False
theorem keyD_keyV : ∀ k : Key, keyD (keyV k) = some k
  | .inl _ => rfl
  | .inr _ => rfl
theorem look_mem : ∀ {kvs : List (Key × D)} {k : Key} {d : D}, (kvs.map (·.1)).Nodup → (k, d) ∈ kvs → lookD kvs k = some d
  | (k', d') :: kvs, k, d, hn, hm => by
    rw [List.map_cons, List.nodup_cons] at hn
    rcases List.mem_cons.mp hm with e | hm
    · cases e
      simp [lookD]
    · have hne : ¬ k' = k := fun e => hn.1 (by subst e; exact List.mem_map.mpr ⟨_, hm, rfl⟩)
      have := look_mem hn.2 hm
      unfold lookD at this ⊢
      rw [List.find?_cons_of_neg (by simpa using hne)]
      exact this
theorem in_key (kvs : List (Key × D)) (k : Key) : inD (keyV k) (.dic kvs) = some (.bl (lookD kvs k).isSome) := by
  cases k <;> rfl
theorem ix_key (kvs : List (Key × D)) (k : Key) : ixD (.dic kvs) (keyV k) = lookD kvs k := by
  cases k <;> rfl
theorem Rm.keys {i : Nat} {ρ : Env'} {s : FS} {kvs : List (Key × D)} {Q : List D → FS → Prop} (e : ρ[i]?.join = some (.dic kvs)) (q : Q (kvs.map fun kv => keyV kv.1) s) : Rm (keysD i ρ) s Q := by
  refine Rm.eq (a := kvs.map fun kv => keyV kv.1) (s' := s) ?_ q
  unfold keysD
  rw [e]
  rfl
theorem atI_ok {α : Type} {xs : List α} {i : Nat} {x : α} (h : xs[i]? = some x) : atI xs (0 + (i : Int)) = some x := by
  have hl := (List.getElem?_eq_some_iff.mp h).1
  unfold atI ixN
  rw [if_pos (by omega), if_pos (by omega)]
  show xs[(0 + (i : Int)).toNat]? = _
  rw [show (0 + (i : Int)).toNat = i by omega]
  exact h
theorem bls_true {α : Type} : ∀ xs : List α, blsD (xs.map fun _ => D.bl true) = some (xs.map fun _ => true)
  | [] => rfl
  | _ :: xs => by
    show (blsD (xs.map fun _ => D.bl true)).map _ = _
    rw [bls_true xs]
    rfl
theorem all_true {α : Type} (xs : List α) : allD [.lst (xs.map fun _ => D.bl true)] = some (.bl true) := by
  show (blsD _).map _ = _
  rw [bls_true]
  show some (D.bl _) = _
  congr 2
  simp
theorem sizeLine_62 : sizeLine < 2 ^ 62 := by decide
theorem same_ok : ∀ (n : Nat) (d : D) (s : FS), plnB n d → g_same n [d, d] s = .ok (.bl true) s
  | n + 1, d, s, h => by
    refine Rm.det ?_
    show Rm (runD 4 2 (b_law_same (g_same n)) [d, d]) s _
    refine Rm.run rfl ?_
    unfold b_law_same
    show Rm (gSeq _ _ [.d d, .d d, .no, .no]) s _
    cases d with
    | non => walk_at "rm"; exact ⟨by simp, rfl⟩
    | bl b => 
      walk_at "rm"
      exact ⟨by simp, rfl⟩
    | int i => 
      walk_at "rm"
      refine Rm.lift (if_pos h) ?_
      walk_at "rm"
      refine Rm.lift (if_pos h) ?_
      walk_at "rm"
      exact ⟨by simp, rfl⟩
    | str x => 
      walk_at "rm"
      refine Rm.lift (if_pos h) ?_
      walk_at "rm"
      refine Rm.lift (if_pos h) ?_
      walk_at "rm"
      exact ⟨by simp, rfl⟩
    | tup xs =>
      obtain ⟨hl, hx⟩ := h
      have h62 := sizeLine_62
      walk_at "rm"
      refine ⟨by rw [rangeD_len]; omega, Rm.lcMap (fun _ => .bl true) (fun x hm => ⟨_, rfl, ?_⟩) ?_⟩
      · obtain ⟨i, hi, rfl⟩ := rangeD_mem hm
        have hi : i < xs.length := by omega
        refine Rm.det ?_
        walk_at "rm"
        refine Rm.lift (atI_ok (List.getElem?_eq_getElem hi)) ?_
        walk_at "rm"
        refine Rm.lift (atI_ok (List.getElem?_eq_getElem hi)) ?_
        walk_at "rm"
        exact Rm.eq (same_ok n _ s (hx _ (List.getElem_mem hi))) ⟨rfl, rfl⟩
      · walk_at "rm"
        refine Rm.lift (all_true _) ?_
        walk_at "rm"
        exact ⟨rfl, rfl⟩
    | lst xs =>
      obtain ⟨hl, hx⟩ := h
      have h62 := sizeLine_62
      walk_at "rm"
      refine ⟨by rw [rangeD_len]; omega, Rm.lcMap (fun _ => .bl true) (fun x hm => ⟨_, rfl, ?_⟩) ?_⟩
      · obtain ⟨i, hi, rfl⟩ := rangeD_mem hm
        have hi : i < xs.length := by omega
        refine Rm.det ?_
        walk_at "rm"
        refine Rm.lift (atI_ok (List.getElem?_eq_getElem hi)) ?_
        walk_at "rm"
        refine Rm.lift (atI_ok (List.getElem?_eq_getElem hi)) ?_
        walk_at "rm"
        exact Rm.eq (same_ok n _ s (hx _ (List.getElem_mem hi))) ⟨rfl, rfl⟩
      · walk_at "rm"
        refine Rm.lift (all_true _) ?_
        walk_at "rm"
        exact ⟨rfl, rfl⟩
    | dic kvs =>
      obtain ⟨hl, hn, hx⟩ := h
      have h62 := sizeLine_62
      walk_at "rm"
      refine Q.Rm.keys rfl ?_
      refine ⟨by rw [List.length_map]; exact hl, Rm.lcMap (fun _ => .bl true) (fun x hm => ⟨_, rfl, ?_⟩) ?_⟩
      · obtain ⟨⟨k, d⟩, hkv, rfl⟩ := List.mem_map.mp hm
        have lk := look_mem hn hkv
        refine Rm.det ?_
        walk_at "rm"
        refine Rm.lift (in_key kvs k) ?_
        rw [lk]
        walk_at "rm"
        refine Rm.lift ((ix_key kvs k).trans lk) ?_
        walk_at "rm"
        refine Rm.lift ((ix_key kvs k).trans lk) ?_
        walk_at "rm"
        exact Rm.eq (same_ok n d s (hx _ hkv)) ⟨rfl, rfl⟩
      · walk_at "rm"
        refine Rm.lift (all_true _) ?_
        walk_at "rm"
        exact ⟨rfl, rfl⟩
    | _ => exact h.elim
theorem feed_ok (ns : List Int) (s : FS) (hl : ns.length ≤ 63) : g_law_feed [.scr ns] s = .ok (.lst (feedL (fs1 ns))) s := by
  have cut : slD (.scr ns) none (some 63) = some (.lst (ns.map D.int)) := by
    show some (D.lst (((ns.drop (HT.sIx ns.length 0 none)).take (HT.sIx ns.length ns.length (some 63) - HT.sIx ns.length 0 none)).map D.int)) = _
    have h1 : HT.sIx ns.length 0 none = 0 := rfl
    have h2 : HT.sIx ns.length ns.length (some 63) = ns.length := by
      unfold HT.sIx
      simp
      omega
    rw [h1, h2]
    simp
  have cut' : ((ns.drop (HT.sIx ns.length 0 none)).take (HT.sIx ns.length ns.length (some 63) - HT.sIx ns.length 0 none)).map D.int = ns.map D.int := D.lst.inj (Option.some.inj cut)
  refine Rm.det ?_
  unfold g_law_feed
  refine Rm.run rfl ?_
  unfold b_law_feed
  show Rm (gSeq _ _ [.d (.scr ns), .no, .no]) s _
  walk_at "rm"
  rw [cut']
  refine Rm.loop (fun xs ρ s' => ∃ (r : List Int) (st : Int) (e : EV), xs = r.map D.int ∧ ρ = [.d (.scr ns), .d (.int st), e] ∧ s' = s ∧ r.foldl (fun st c => (st * 40961 + c % 2147483029 + 77) % 2147483477) st = stirOf ns) ⟨ns, 10019, _, rfl, rfl, rfl, rfl⟩ ?_ ?_
  · rintro x r ρ s' ⟨r', st, e, h1, rfl, rfl, h2⟩
    cases r' with
    | nil => cases h1
    | cons c r' =>
      cases h1
      refine ⟨_, rfl, ?_⟩
      show Rm _ _ _
      walk_at "rm"
      exact ⟨r', _, _, rfl, rfl, rfl, h2⟩
  · rintro ρ s' ⟨r', st, e, h1, rfl, rfl, h2⟩
    cases r' with
    | cons c r' => cases h1
    | nil =>
      have h2 : st = stirOf ns := h2
      subst h2
      walk_at "rm"
      rw [cut']
      exact ⟨rfl, rfl⟩
theorem flat_ints : ∀ a : List Int, flatL (a.map D.int) = some (a.map V.int)
  | [] => rfl
  | x :: r => by
    show (scalV (.int x)).bind _ = _
    show (flatL (r.map D.int)).map _ = _
    rw [flat_ints r]
    rfl
theorem inV_ints (x : Int) (a : List Int) : inV (.int x) (a.map V.int) = decide (x ∈ a) := by
  unfold inV
  induction a with
  | nil => rfl
  | cons y r ih =>
    rw [List.map_cons, List.any_cons, ih]
    show ((y == x) || _) = _
    by_cases h : y = x
    · subst h; simp
    · have h2 : x ≠ y := fun e => h e.symm
      by_cases h3 : x ∈ r <;> simp [h, h2, h3]
theorem nin_ints (x : Int) (a : List Int) : ninD (.int x) (.lst (a.map D.int)) = some (.bl (!decide (x ∈ a))) := by
  have h : inB (.int x) (.lst (a.map D.int)) = some (inV (.int x) (a.map V.int)) := by
    show (match scalV (.int x), flatL (a.map D.int) with
      | some v, some vs => some (inV v vs)
      | _, _ => _) = _
    rw [flat_ints]
    rfl
  unfold ninD
  rw [h, inV_ints]
  rfl
/-- the place of x in a -/
def ixA (a : List Int) (x : Int) : Nat := a.findIdx fun y => y == x
theorem index_ints {x : Int} {a : List Int} (h : x ∈ a) : indexD (.lst (a.map D.int)) [.int x] = some (.int (ixA a x)) := by
  show (flatL (a.map D.int)).bind _ = _
  rw [flat_ints]
  have e1 : (a.map V.int).any (fun z => eqV z (.int x)) = true := by
    have := inV_ints x a
    unfold inV at this
    rw [this]
    simpa using h
  show (if (a.map V.int).any (fun z => eqV z (.int x)) = true then some (D.int ((a.map V.int).findIdx fun z => eqV z (.int x) : Nat)) else none) = _
  rw [if_pos e1]
  unfold ixA
  congr 3
  rw [List.findIdx_map]
  rfl
theorem of_ok {xs : List D} {s : FS} {Q : D → FS → Prop} (h0 : 0 < xs.length) (h1 : xs.length < 1073741824) (ok : s.Ok) (q : ∀ y s', y ∈ xs → s'.Ok → Q y s') : Rm (g_law_of [.feed, .lst xs]) s Q := by
  unfold g_law_of
  refine Rm.run rfl ?_
  unfold b_law_of
  show Rm (gRet _ [.d .feed, .d (.lst xs)]) s _
  walk_at "rm"
  refine Rm.draw (by omega) (by omega) ok fun k s' ok' k0 k1 => ?_
  walk_at "rm"
  have hk : k.toNat < xs.length := by omega
  refine Rm.lift (a := xs[k.toNat]) ?_ ?_
  · show atI xs k = _
    have := atI_ok (List.getElem?_eq_getElem hk)
    rw [show (0 + (k.toNat : Int)) = k by omega] at this
    exact this
  · walk_at "rm"
    exact q _ _ (List.getElem_mem hk) ok'
theorem ints_of {P : Int → Prop} : ∀ {ys : List D}, (∀ y, y ∈ ys → ∃ z, y = .int z ∧ P z) → ∃ row : List Int, ys = row.map D.int ∧ ∀ z, z ∈ row → P z
  | [], _ => ⟨[], rfl, fun z h => by simp at h⟩
  | y :: ys, h => by
    obtain ⟨z, rfl, hz⟩ := h y List.mem_cons_self
    obtain ⟨row, rfl, hr⟩ := ints_of (ys := ys) fun y hy => h y (List.mem_cons_of_mem _ hy)
    exact ⟨z :: row, rfl, fun x hx => by
      rcases List.mem_cons.mp hx with rfl | hx
      · exact hz
      · exact hr x hx⟩
theorem pln_int (n : Nat) (x : Int) (h : -(2 ^ 64) < x ∧ x < 2 ^ 64) : plnB (n + 1) (.int x) := by
  show x.natAbs.log2 < 1920
  have h1 : x.natAbs < 2 ^ 64 := by omega
  by_cases h0 : x.natAbs = 0
  · rw [h0]; decide
  · exact Nat.lt_trans ((Nat.log2_lt h0).mpr h1) (by decide)
end Q

set_option Elab.async false
set_option linter.all false
set_option maxRecDepth 100000
set_option maxHeartbeats 4000000
namespace Q
open PySem PySem.Spec PyProof.Rows L2 DL
/-- the letters -/
def alpha : List Str := (Str.ofString "abcdefghijklmnopqrstuvwxyz").cps.toList.map fun c => ⟨#[c]⟩
theorem alpha_len : alpha.length = 26 := by decide +kernel
theorem alpha_nodup : alpha.Nodup := by decide +kernel
theorem alpha_one : ∀ x, x ∈ alpha → x.length = 1 := fun x h => by
  unfold alpha at h
  obtain ⟨c, _, rfl⟩ := List.mem_map.mp h
  rfl
theorem signs_eq : signsD (Str.ofString "abcdefghijklmnopqrstuvwxyz") = alpha.map D.str := by
  unfold signsD alpha
  rw [List.map_map]
  rfl
theorem signs_ok (s : FS) : m_law_signs s = .ok (alpha.map D.str) s := by
  refine Rm.det ?_
  unfold m_law_signs
  refine Rm.quiet ?_
  show Rm (M.bind _ _) s _
  walk_at "rm"
  exact ⟨signs_eq, rfl⟩
theorem strs_strs : ∀ a : List Str, strsD (a.map D.str) = some a
  | [] => rfl
  | x :: r => by
    show (strsD (r.map D.str)).map _ = _
    rw [strs_strs r]
    rfl
theorem sorted_strs {a : List Str} (h : a.length < 64) : sortedD [.lst (a.map D.str)] = some (.lst ((sortS a).map D.str)) := by
  show (sortL (a.map D.str)).map D.lst = _
  unfold sortL
  rw [strs_strs]
  show (if a.length < 64 then some ((sortS a).map D.str) else none).map D.lst = _
  rw [if_pos h]
  rfl
theorem erase_map {α β : Type} (f : α → β) (l : List α) (i : Nat) : (l.map f).eraseIdx i = (l.eraseIdx i).map f := by
  simp [List.eraseIdx_eq_take_drop_succ, List.map_take, List.map_drop]
theorem erase_perm {α : Type} {l : List α} {i : Nat} (h : i < l.length) : (l[i] :: l.eraseIdx i).Perm l := by
  rw [List.eraseIdx_eq_take_drop_succ]
  refine List.Perm.trans List.perm_middle.symm ?_
  rw [← List.drop_eq_getElem_cons h, List.take_append_drop]
end Q

set_option Elab.async false
set_option linter.all false
set_option maxRecDepth 100000
set_option maxHeartbeats 4000000
namespace Q
open PySem PySem.Spec PyProof.Rows L2 DL
/-- items in a drawn order -/
theorem mixed_ok {c : D} {xs : List D} {s : FS} {Q : D → FS → Prop} (hc : anyD' c = some xs) (hl : xs.length ≤ 1000) (ok : s.Ok) (q : ∀ (ys : List D) s', s'.Ok → ys.Perm xs → Q (.lst ys) s') : Rm (g_law_mixed [.feed, c]) s Q := by
  unfold g_law_mixed
  refine Rm.run rfl ?_
  unfold b_law_mixed
  have hsz : sizeLine = 16777216 := rfl
  show Rm (gSeq _ _ [.d .feed, .d c, .no, .no]) s _
  walk_at "rm"
  refine Rm.lift hc ?_
  refine Rm.loop (fun r ρ s' => ∃ (f : List D) (e : EV), ρ = [.d .feed, .d c, .ol f, e] ∧ s'.Ok ∧ (f ++ r).Perm xs) ⟨[], _, rfl, ok, by simp⟩ ?_ ?_
  · rintro x r ρ s' ⟨f, e, rfl, ok', hp⟩
    have hlen := hp.length_eq
    rw [List.length_append, List.length_cons] at hlen
    refine ⟨_, rfl, ?_⟩
    show Rm _ _ _
    walk_at "rm"
    refine Rm.vmt rfl ?_
    walk_at "rm"
    refine Rm.draw (by omega) (by omega) ok' fun k s2 ok2 k0 k1 => ?_
    walk_at "rm"
    refine Rm.mtk rfl ?_
    refine Rm.lift (a := (.non, f.take k.toNat ++ [x] ++ f.drop k.toNat)) ?_ ?_
    · show (if f.length < sizeLine ∧ 0 ≤ k ∧ k < 2 ^ 63 then _ else _) = _
      rw [if_pos ⟨by omega, k0, by omega⟩]
    · refine ⟨f.take k.toNat ++ [x] ++ f.drop k.toNat, .d x, rfl, ok2, ?_⟩
      refine List.Perm.trans ?_ hp
      have h1 : (f.take k.toNat ++ [x] ++ f.drop k.toNat).Perm (f ++ [x]) := by
        have h2 : (f.take k.toNat ++ [x] ++ f.drop k.toNat).Perm ([x] ++ f.take k.toNat ++ f.drop k.toNat) := List.perm_append_comm.append_right _
        refine h2.trans ?_
        rw [List.append_assoc, List.take_append_drop]
        exact List.perm_append_comm
      have h3 := h1.append_right r
      rw [List.append_assoc] at h3
      rw [List.append_assoc f] at h3
      rw [List.append_assoc]
      exact h3
  · rintro ρ s' ⟨f, e, rfl, ok', hp⟩
    rw [List.append_nil] at hp
    walk_at "rm"
    exact q _ _ ok' hp

end Q

set_option Elab.async false
set_option linter.all false
set_option maxRecDepth 100000
set_option maxHeartbeats 4000000
namespace Q
open PySem PySem.Spec PyProof.Rows L2 DL
def unStr : D → Str
  | .str x => x
  | _ => Str.empty
theorem strs_of_perm {ys : List D} {a : List Str} (h : ys.Perm (a.map D.str)) : ∃ t : List Str, ys = t.map D.str ∧ t.Perm a := by
  refine ⟨ys.map unStr, ?_, ?_⟩
  · rw [List.map_map]
    have : ∀ y, y ∈ ys → (D.str ∘ unStr) y = y := fun y hy => by
      obtain ⟨x, _, rfl⟩ := List.mem_map.mp (h.mem_iff.mp hy)
      rfl
    rw [List.map_congr_left (g := id) this]
    simp
  · have h2 := h.map unStr
    rw [List.map_map] at h2
    have : a.map (unStr ∘ D.str) = a := by
      rw [show a.map (unStr ∘ D.str) = a.map id from List.map_congr_left fun y _ => rfl, List.map_id]
    rw [this] at h2
    exact h2
def stems : List Str := ["", "q", "map", "input", "stack"]
theorem names_ok {n : Int} {s : FS} {Q : D → FS → Prop} (h0 : 0 ≤ n) (h1 : n ≤ 1000) (ok : s.Ok) (q : ∀ (stem : Str) (tails : List Str) s', s'.Ok → stem ∈ stems → tails.Perm alpha → Q (.lst ((tails.take n.toNat).map fun t => D.str (stem ++ t))) s') : Rm (g_law_names [.feed, .int n]) s Q := by
  unfold g_law_names
  refine Rm.run rfl ?_
  unfold b_law_names
  have hsz : sizeLine = 16777216 := rfl
  show Rm (gSeq _ _ [.d .feed, .d (.int n), .no, .no, .no]) s _
  walk_at "rm"
  refine of_ok (by simp) (by simp) ok fun y s1 hy ok1 => ?_
  obtain ⟨stem, rfl, hs⟩ : ∃ stem, y = .str stem ∧ stem ∈ stems := by
    simp only [List.mem_cons, List.not_mem_nil, or_false] at hy
    rcases hy with rfl | rfl | rfl | rfl | rfl <;> exact ⟨_, rfl, by decide +kernel⟩
  have hst : stem.length ≤ 10 := by
    have : ∀ x, x ∈ stems → x.length ≤ 10 := by decide +kernel
    exact this _ hs
  walk_at "rm"
  refine Rm.quiet (Rm.eq (signs_ok s1) ?_)
  walk_at "rm"
  refine mixed_ok (c := .lst (alpha.map D.str)) (xs := alpha.map D.str) rfl (by rw [List.length_map, alpha_len]; decide) ok1 fun ys s2 ok2 hp => ?_
  obtain ⟨tails, rfl, ht⟩ := strs_of_perm hp
  have htl : ∀ x, x ∈ tails → x.length = 1 := fun x hx => alpha_one x (ht.mem_iff.mp hx)
  have hln := ht.length_eq
  rw [alpha_len] at hln
  walk_at "rm"
  refine ⟨by rw [List.length_take, List.length_map]; omega, ?_⟩
  rw [← List.map_take]
  refine Rm.lcMap (fun d => D.str (stem ++ unStr d)) (fun x hx => ?_) ?_
  · obtain ⟨t, ht2, rfl⟩ := List.mem_map.mp hx
    have h1 := htl t (List.mem_of_mem_take ht2)
    refine ⟨_, rfl, ?_⟩
    refine Rm.det ?_
    walk_at "rm"
    exact ⟨rfl, rfl⟩
  · walk_at "rm"
    rw [List.map_map]
    exact q stem tails s2 ok2 hs ht
end Q

set_option Elab.async false
set_option linter.all false
set_option maxRecDepth 100000
set_option maxHeartbeats 4000000
namespace Q
open PySem PySem.Spec PyProof.Rows L2 DL
theorem eqD_str (a b : Str) : eqD (.str a) (.str b) = some (.bl (decide (a = b))) := by
  have h : eqB (.str a) (.str b) = some (decide (V.str a = V.str b)) := rfl
  unfold eqD
  rw [h]
  by_cases h : a = b
  · subst h; simp
  · simp [h]
theorem neD_int (a b : Int) : neD (.int a) (.int b) = some (.bl (!decide (a = b))) := by
  have h := eqD_int a b
  unfold eqD at h
  unfold neD
  cases q : eqB (.int a) (.int b) with
  | none => rw [q] at h; cases h
  | some k => rw [q] at h; cases h; rfl
theorem flat_strs : ∀ a : List Str, flatL (a.map D.str) = some (a.map V.str)
  | [] => rfl
  | x :: r => by
    show (scalV (.str x)).bind _ = _
    show (flatL (r.map D.str)).map _ = _
    rw [flat_strs r]
    rfl
theorem inV_strs (x : Str) (a : List Str) : inV (.str x) (a.map V.str) = decide (x ∈ a) := by
  unfold inV
  induction a with
  | nil => rfl
  | cons y r ih =>
    rw [List.map_cons, List.any_cons, ih]
    show ((y == x) || _) = _
    by_cases h : y = x
    · subst h; simp
    · have h2 : x ≠ y := fun e => h e.symm
      by_cases h3 : x ∈ r <;> simp [h, h2, h3]
theorem inB_strs (x : Str) (a : List Str) : inB (.str x) (.lst (a.map D.str)) = some (decide (x ∈ a)) := by
  have h : inB (.str x) (.lst (a.map D.str)) = some (inV (.str x) (a.map V.str)) := by
    show (match scalV (.str x), flatL (a.map D.str) with
      | some v, some vs => some (inV v vs)
      | _, _ => _) = _
    rw [flat_strs]
    rfl
  rw [h, inV_strs]
theorem in_strs (x : Str) (a : List Str) : inD (.str x) (.lst (a.map D.str)) = some (.bl (decide (x ∈ a))) := by
  unfold inD
  rw [inB_strs]
  rfl
theorem nin_strs (x : Str) (a : List Str) : ninD (.str x) (.lst (a.map D.str)) = some (.bl (!decide (x ∈ a))) := by
  unfold ninD
  rw [inB_strs]
  rfl
/-- may it be a name -/
def smallB (c : Nat) : Bool := match inD (.str ⟨#[c]⟩) (.str "abcdefghijklmnopqrstuvwxyz") with
  | some (.bl k) => k
  | _ => false
def nameB (x : Str) : Bool := decide (1 ≤ x.length) && decide (x.length ≤ 8) && x.cps.toList.all smallB
theorem small_in {c : Nat} (h : smallB c = true) : inD (.str ⟨#[c]⟩) (.str "abcdefghijklmnopqrstuvwxyz") = some (.bl true) := by
  unfold smallB at h
  split at h
  · rename_i k e
    rw [e, h]
  · cases h
theorem name_ok {x : Str} (h : nameB x = true) (s : FS) : g_is_name [.str x] s = .ok (.bl true) s := by
  unfold nameB at h
  rw [Bool.and_eq_true, Bool.and_eq_true, decide_eq_true_iff, decide_eq_true_iff, List.all_eq_true] at h
  obtain ⟨⟨h1, h2⟩, h3⟩ := h
  have hsz : sizeLine = 16777216 := rfl
  refine Rm.det ?_
  unfold g_is_name
  refine Rm.run rfl ?_
  unfold b_is_name
  show Rm (gRet _ [.d (.str x), .no]) s _
  walk_at "rm"
  refine Rm.chainT (decide_eq_true (by omega)) ?_
  walk_at "rm"
  have e2 : decide ((x.length : Int) ≤ 8) = true := decide_eq_true (by omega)
  refine Rm.ite (fun _ => ?_) (fun hk => by rw [e2] at hk; cases hk)
  walk_at "rm"
  refine ⟨by rw [List.length_map]; show x.length ≤ _; omega, ?_⟩
  refine Rm.eq (lcE_map (fun _ => D.bl true) fun y hy => ?_) ?_
  · obtain ⟨c, hc, rfl⟩ := List.mem_map.mp hy
    refine ⟨_, rfl, Rm.det ?_⟩
    walk_at "rm"
    exact ⟨Option.some.inj (small_in (h3 c hc)), rfl⟩
  · walk_at "rm"
    refine Rm.lift (all_true _) ?_
    walk_at "rm"
    exact ⟨rfl, rfl⟩
theorem number_int (i : Int) (s : FS) : g_is_number [.int i] s = .ok (.bl true) s := by
  refine Rm.det ?_
  unfold g_is_number
  refine Rm.run rfl ?_
  unfold b_is_number
  show Rm (gRet _ [.d (.int i)]) s _
  walk_at "rm"
  exact ⟨rfl, rfl⟩
theorem number_str (x : Str) (s : FS) : g_is_number [.str x] s = .ok (.bl false) s := by
  refine Rm.det ?_
  unfold g_is_number
  refine Rm.run rfl ?_
  unfold b_is_number
  show Rm (gRet _ [.d (.str x)]) s _
  walk_at "rm"
  exact ⟨rfl, rfl⟩
theorem between_int (i a b : Int) (s : FS) : g_is_between [.int i, .int a, .int b] s = .ok (.bl (decide (a ≤ i ∧ i ≤ b))) s := by
  refine Rm.det ?_
  unfold g_is_between
  refine Rm.run rfl ?_
  unfold b_is_between
  show Rm (gRet _ [.d (.int i), .d (.int a), .d (.int b)]) s _
  walk_at "rm"
  refine Rm.eq (number_int i s) ?_
  walk_at "rm"
  refine Rm.chainC (fun hk => ?_) (fun hk => ?_)
  · have hk := of_decide_eq_true hk
    walk_at "rm"
    refine ⟨?_, rfl⟩
    by_cases h : i ≤ b <;> simp [h, hk]
  · have hk := of_decide_eq_false hk
    walk_at "rm"
    refine ⟨?_, rfl⟩
    simp [hk]
/-- a letter -/
def letB (x : Str) : Bool := decide (x.length = 1) && (match inD (.str x) (.str "abcdefghijklmnopqrstuvwxyz") with
  | some (.bl k) => k
  | _ => false)
theorem let_in {x : Str} (h : letB x = true) : x.length = 1 ∧ inD (.str x) (.str "abcdefghijklmnopqrstuvwxyz") = some (.bl true) := by
  unfold letB at h
  rw [Bool.and_eq_true, decide_eq_true_iff] at h
  refine ⟨h.1, ?_⟩
  have h2 := h.2
  split at h2
  · rename_i k e
    rw [e, h2]
  · cases h2
theorem letter_ok {x : Str} (h : letB x = true) (s : FS) : g_is_letter [.str x] s = .ok (.bl true) s := by
  obtain ⟨h1, h2⟩ := let_in h
  have hsz : sizeLine = 16777216 := rfl
  refine Rm.det ?_
  unfold g_is_letter
  refine Rm.run rfl ?_
  unfold b_is_letter
  show Rm (gRet _ [.d (.str x)]) s _
  walk_at "rm"
  have e2 : decide ((x.length : Int) = 1) = true := decide_eq_true (by omega)
  refine Rm.ite (fun _ => ?_) (fun hk => by rw [e2] at hk; cases hk)
  walk_at "rm"
  exact ⟨Option.some.inj h2, rfl⟩
theorem letter_int (i : Int) (s : FS) : g_is_letter [.int i] s = .ok (.bl false) s := by
  refine Rm.det ?_
  unfold g_is_letter
  refine Rm.run rfl ?_
  unfold b_is_letter
  show Rm (gRet _ [.d (.int i)]) s _
  walk_at "rm"
  exact ⟨rfl, rfl⟩
/-- a dimension -/
def dimB : D → Bool
  | .str x => letB x
  | .int i => decide (1 ≤ i ∧ i ≤ 3)
  | _ => false
theorem dim_ok {d : D} (h : dimB d = true) (s : FS) : g_is_dimension [d] s = .ok (.bl true) s := by
  refine Rm.det ?_
  unfold g_is_dimension
  refine Rm.run rfl ?_
  unfold b_is_dimension
  show Rm (gRet _ [.d d]) s _
  cases d with
  | str x =>
    walk_at "rm"
    refine Rm.eq (letter_ok h s) ?_
    walk_at "rm"
    exact ⟨rfl, rfl⟩
  | int i =>
    walk_at "rm"
    refine Rm.eq (letter_int i s) ?_
    walk_at "rm"
    refine Rm.eq (between_int i 1 3 s) ?_
    walk_at "rm"
    exact ⟨by rw [show decide (1 ≤ i ∧ i ≤ 3) = true from h], rfl⟩
  | _ => cases h
def shpB (xs : List D) : Bool := decide (xs.length ≤ 4) && xs.all dimB
theorem shape_ok {xs : List D} (h : shpB xs = true) (s : FS) : g_is_shape [.tup xs] s = .ok (.bl true) s := by
  unfold shpB at h
  rw [Bool.and_eq_true, decide_eq_true_iff, List.all_eq_true] at h
  have hsz : sizeLine = 16777216 := rfl
  refine Rm.det ?_
  unfold g_is_shape
  refine Rm.run rfl ?_
  unfold b_is_shape
  show Rm (gRet _ [.d (.tup xs), .no]) s _
  walk_at "rm"
  have e2 : decide ((xs.length : Int) ≤ 4) = true := decide_eq_true (by omega)
  refine Rm.ite (fun _ => ?_) (fun hk => by rw [e2] at hk; cases hk)
  walk_at "rm"
  refine ⟨by omega, ?_⟩
  refine Rm.eq (lcE_map (fun _ => D.bl true) fun y hy => ?_) ?_
  · refine ⟨_, rfl, Rm.det ?_⟩
    walk_at "rm"
    exact Rm.eq (dim_ok (h.2 y hy) s) ⟨rfl, rfl⟩
  · walk_at "rm"
    refine Rm.lift (all_true _) ?_
    walk_at "rm"
    exact ⟨rfl, rfl⟩
theorem axis_ok {i : Int} (h : -4 ≤ i ∧ i ≤ 3) (s : FS) : g_is_axis [.int i] s = .ok (.bl true) s := by
  refine Rm.det ?_
  unfold g_is_axis
  refine Rm.run rfl ?_
  unfold b_is_axis
  show Rm (gRet _ [.d (.int i)]) s _
  walk_at "rm"
  refine Rm.eq (between_int i (-4) 3 s) ?_
  walk_at "rm"
  exact ⟨by rw [decide_eq_true h], rfl⟩

end Q

set_option Elab.async false
set_option linter.all false
set_option maxRecDepth 100000
set_option maxHeartbeats 4000000
namespace Q
open PySem PySem.Spec PyProof.Rows L2 DL
/-- a step -/
inductive Stp where
  | map (n w a : Str)
  | comb (into : Bool) (n w a b : Str)
  | red (n w a : Str) (ax : Int) (kept : Bool)
  | trans (n a : Str) (o : List Int)
  | prod (n a b : Str)
  | insr (n a : Str) (ax : Int)
  | remv (n a : Str) (ax : Int)
  | sqz (n a : Str)
  | strch (n a : Str) (sh : List D)
  | stck (n : Str) (as : List Str) (ax : Int)
  | sel (n a : Str) (ax i : Int)
def Stp.nm : Stp → Str
  | .map n .. => n
  | .comb _ n .. => n
  | .red n .. => n
  | .trans n .. => n
  | .prod n .. => n
  | .insr n .. => n
  | .remv n .. => n
  | .sqz n .. => n
  | .strch n .. => n
  | .stck n .. => n
  | .sel n .. => n
def Stp.kd : Stp → Str
  | .map .. => "map"
  | .comb false .. => "combine"
  | .comb true .. => "into"
  | .red .. => "reduce"
  | .trans .. => "transpose"
  | .prod .. => "product"
  | .insr .. => "insert"
  | .remv .. => "remove"
  | .sqz .. => "squeeze"
  | .strch .. => "stretch"
  | .stck .. => "stack"
  | .sel .. => "select"
def Stp.ops : Stp → List Str
  | .map _ _ a => [a]
  | .comb _ _ _ a b => [a, b]
  | .red _ _ a .. => [a]
  | .trans _ a _ => [a]
  | .prod _ a b => [a, b]
  | .insr _ a _ => [a]
  | .remv _ a _ => [a]
  | .sqz _ a => [a]
  | .strch _ a _ => [a]
  | .stck _ as _ => as
  | .sel _ a _ _ => [a]
def Stp.d : Stp → D
  | .map n w a => .tup [.str n, .str "map", .str w, .str a]
  | .comb false n w a b => .tup [.str n, .str "combine", .str w, .str a, .str b]
  | .comb true n w a b => .tup [.str n, .str "into", .str w, .str a, .str b]
  | .red n w a ax k => .tup [.str n, .str "reduce", .str w, .str a, .int ax, .bl k]
  | .trans n a o => .tup [.str n, .str "transpose", .str a, .tup (o.map .int)]
  | .prod n a b => .tup [.str n, .str "product", .str a, .str b]
  | .insr n a ax => .tup [.str n, .str "insert", .str a, .int ax]
  | .remv n a ax => .tup [.str n, .str "remove", .str a, .int ax]
  | .sqz n a => .tup [.str n, .str "squeeze", .str a]
  | .strch n a sh => .tup [.str n, .str "stretch", .str a, .tup sh]
  | .stck n as ax => .tup [.str n, .str "stack", .tup (as.map .str), .int ax]
  | .sel n a ax i => .tup [.str n, .str "select", .str a, .int ax, .int i]
/-- what it holds besides names -/
def Stp.Det : Stp → Prop
  | .map _ w _ => nameB w = true
  | .comb _ _ w _ _ => nameB w = true
  | .red _ w _ ax _ => nameB w = true ∧ -4 ≤ ax ∧ ax ≤ 3
  | .trans _ _ o => o.length ≤ 4 ∧ o.Perm ((List.range o.length).map fun i : Nat => (i : Int) - (o.length : Int))
  | .insr _ _ ax => -4 ≤ ax ∧ ax ≤ 3
  | .remv _ _ ax => -4 ≤ ax ∧ ax ≤ 3
  | .strch _ _ sh => shpB sh = true
  | .stck _ as ax => 1 ≤ as.length ∧ as.length ≤ 3 ∧ -4 ≤ ax ∧ ax ≤ 3
  | .sel _ _ ax i => (-4 ≤ ax ∧ ax ≤ 3) ∧ (i = 0 ∨ i = 1 ∨ i = -1 ∨ i = -2)
  | _ => True
structure Stp.Ok (st : Stp) : Prop where
  nm : nameB st.nm = true
  ops : ∀ x, x ∈ st.ops → nameB x = true
  det : st.Det
theorem operands_ok (st : Stp) (s : FS) : g_operands [st.d] s = .ok (.lst (st.ops.map .str)) s := by
  refine Rm.det ?_
  unfold g_operands
  refine Rm.run rfl ?_
  unfold b_operands
  cases st with
  | comb k => cases k <;> (unfold Stp.d; show Rm (gSeq _ _ [.d (.tup _), .no]) s _; walk_at "rm"; exact ⟨rfl, rfl⟩)
  | _ => unfold Stp.d; show Rm (gSeq _ _ [.d (.tup _), .no]) s _; walk_at "rm"; exact ⟨rfl, rfl⟩
theorem lops_ok (st : Stp) (s : FS) : g_law_operands [st.d] s = .ok (.lst (st.ops.map .str)) s := by
  refine Rm.det ?_
  unfold g_law_operands
  refine Rm.run rfl ?_
  unfold b_law_operands
  cases st with
  | comb k => cases k <;> (unfold Stp.d; show Rm (gSeq _ _ [.d (.tup _)]) s _; walk_at "rm"; exact ⟨rfl, rfl⟩)
  | _ => unfold Stp.d; show Rm (gSeq _ _ [.d (.tup _)]) s _; walk_at "rm"; exact ⟨rfl, rfl⟩
theorem ints_ints : ∀ a : List Int, intsD (a.map D.int) = some a
  | [] => rfl
  | x :: r => by
    show (intsD (r.map D.int)).map _ = _
    rw [ints_ints r]
    rfl
theorem eq_rngB : ∀ n : Nat, n ≤ 4 → eqB (.lst (((List.range n).map fun i : Nat => (i : Int) - (n : Int)).map .int)) (.lst ((List.range n).map fun i : Nat => D.int (-(n : Int) + (i : Int)))) = some true
  | 0, _ => by decide +kernel
  | 1, _ => by decide +kernel
  | 2, _ => by decide +kernel
  | 3, _ => by decide +kernel
  | 4, _ => by decide +kernel
  | n + 5, h => absurd h (by omega)
theorem eq_rng {n : Nat} (h : n ≤ 4) : eqD (.lst (((List.range n).map fun i : Nat => (i : Int) - (n : Int)).map .int)) (.lst ((List.range n).map fun i : Nat => D.int (-(n : Int) + (i : Int)))) = some (.bl true) := by
  unfold eqD
  rw [eq_rngB n h]
  rfl

end Q

set_option Elab.async false
set_option linter.all false
set_option maxRecDepth 100000
set_option maxHeartbeats 4000000
namespace Q
open PySem PySem.Spec PyProof.Rows L2 DL
theorem rng_sorted (n : Nat) : ((List.range n).map fun i : Nat => (i : Int) - (n : Int)).Pairwise (· ≤ ·) := by
  rw [List.pairwise_map]
  refine List.Pairwise.imp (R := (· < ·)) (fun {a b} h => ?_) List.pairwise_lt_range
  omega
theorem order_ok {o : List Int} (hl : o.length ≤ 4) (hp : o.Perm ((List.range o.length).map fun i : Nat => (i : Int) - (o.length : Int))) (s : FS) : g_is_order [.tup (o.map .int)] s = .ok (.bl true) s := by
  have hsz : sizeLine = 16777216 := rfl
  have hs : sortI o = (List.range o.length).map fun i : Nat => (i : Int) - (o.length : Int) := (sortI_eq hp.symm (rng_sorted _)).symm
  refine Rm.det ?_
  unfold g_is_order
  refine Rm.run rfl ?_
  unfold b_is_order
  show Rm (gSeq _ _ [.d (.tup (o.map .int)), .no]) s _
  walk_at "rm"
  refine ⟨by rw [List.length_map]; omega, ?_⟩
  refine Rm.eq (lcE_map (fun _ => D.bl true) fun y hy => ?_) ?_
  · obtain ⟨i, hi, rfl⟩ := List.mem_map.mp hy
    obtain ⟨j, hj, rfl⟩ := List.mem_map.mp (hp.mem_iff.mp hi)
    have hj := List.mem_range.mp hj
    refine ⟨_, rfl, Rm.det ?_⟩
    walk_at "rm"
    refine Rm.eq (between_int _ (-4) (-1) s) ⟨?_, rfl⟩
    rw [decide_eq_true (by omega)]
  · walk_at "rm"
    refine Rm.lift (all_true _) ?_
    walk_at "rm"
    refine Rm.lift (a := .lst ((sortI o).map .int)) ?_ ?_
    · show (if (o.map D.int).length ≤ sizeLine then (intsD (o.map .int)).map fun ns => D.lst ((sortI ns).map .int) else none) = _
      rw [if_pos (by rw [List.length_map]; omega), ints_ints]
      rfl
    · walk_at "rm"
      refine Rm.lift (a := .lst ((List.range o.length).map fun i : Nat => D.int (-(o.length : Int) + (i : Int)))) ?_ ?_
      · show rgD (-((o.map D.int).length : Int)) 0 = _
        unfold rgD
        rw [if_pos (by unfold RgOk; rw [List.length_map]; omega), List.length_map]
        rw [show (0 - -(o.length : Int)).toNat = o.length by omega]
      · rw [hs]
        refine Rm.lift (eq_rng hl) ?_
        walk_at "rm"
        exact ⟨rfl, rfl⟩
theorem details_ok {st : Stp} (h : st.Ok) (s : FS) : g_has_details [st.d] s = .ok (.bl true) s := by
  have hd := h.det
  refine Rm.det ?_
  unfold g_has_details
  refine Rm.run rfl ?_
  unfold b_has_details
  cases st with
  | comb k => cases k <;> (unfold Stp.d; show Rm (gSeq _ _ [.d (.tup _), .no]) s _; walk_at "rm"; exact ⟨rfl, rfl⟩)
  | red n w a ax k =>
    unfold Stp.d; show Rm (gSeq _ _ [.d (.tup _), .no]) s _; walk_at "rm"
    refine Rm.eq (axis_ok hd.2 s) ?_
    walk_at "rm"
    exact ⟨rfl, rfl⟩
  | trans n a o =>
    unfold Stp.d; show Rm (gSeq _ _ [.d (.tup _), .no]) s _; walk_at "rm"
    refine Rm.eq (order_ok hd.1 hd.2 s) ?_
    walk_at "rm"
    exact ⟨rfl, rfl⟩
  | insr n a ax =>
    unfold Stp.d; show Rm (gSeq _ _ [.d (.tup _), .no]) s _; walk_at "rm"
    refine Rm.eq (axis_ok hd s) ?_
    walk_at "rm"
    exact ⟨rfl, rfl⟩
  | remv n a ax =>
    unfold Stp.d; show Rm (gSeq _ _ [.d (.tup _), .no]) s _; walk_at "rm"
    refine Rm.eq (axis_ok hd s) ?_
    walk_at "rm"
    exact ⟨rfl, rfl⟩
  | stck n as ax =>
    unfold Stp.d; show Rm (gSeq _ _ [.d (.tup _), .no]) s _; walk_at "rm"
    refine Rm.eq (axis_ok hd.2.2 s) ?_
    walk_at "rm"
    exact ⟨rfl, rfl⟩
  | sel n a ax i =>
    unfold Stp.d; show Rm (gSeq _ _ [.d (.tup _), .no]) s _; walk_at "rm"
    refine Rm.eq (axis_ok hd.1 s) ?_
    walk_at "rm"
    refine Rm.eq (number_int i s) ?_
    walk_at "rm"
    refine ⟨?_, rfl⟩
    rcases hd.2 with rfl | rfl | rfl | rfl <;> rfl
  | strch n a sh =>
    unfold Stp.d; show Rm (gSeq _ _ [.d (.tup _), .no]) s _; walk_at "rm"
    refine Rm.eq (shape_ok hd s) ?_
    walk_at "rm"
    exact ⟨rfl, rfl⟩
  | _ => unfold Stp.d; show Rm (gSeq _ _ [.d (.tup _), .no]) s _; walk_at "rm"; exact ⟨rfl, rfl⟩

end Q

set_option Elab.async false
set_option linter.all false
set_option maxRecDepth 100000
set_option maxHeartbeats 4000000
namespace Q
open PySem PySem.Spec PyProof.Rows L2 DL
theorem names_all {as : List Str} (h : ∀ x, x ∈ as → nameB x = true) (i : Nat) (ρ : Env') (s : FS) (hi : ∀ y : D, (setE [(i, y)] ρ)[i]?.join = some y) : lcE (bName i) cYes (dCall g_is_name (lCons (dVar i) lNil)) (as.map D.str) ρ s = .ok ((as.map D.str).map fun _ => D.bl true) s := by
  refine lcE_map (fun _ => D.bl true) fun y hy => ?_
  obtain ⟨x, hx, rfl⟩ := List.mem_map.mp hy
  refine ⟨_, rfl, Rm.det ?_⟩
  walk_at "rm"
  refine Rm.lift (hi _) ?_
  walk_at "rm"
  exact Rm.eq (name_ok (h x hx) s) ⟨rfl, rfl⟩
theorem ops_le {st : Stp} (h : st.Ok) : st.ops.length ≤ 3 := by
  have hd := h.det
  cases st with
  | stck n as ax => exact hd.2.1
  | _ => simp [Stp.ops]
theorem is_step_ok {st : Stp} (h : st.Ok) (s : FS) : g_is_step [st.d] s = .ok (.bl true) s := by
  have hsz : sizeLine = 16777216 := rfl
  have hl := ops_le h
  have hnm := h.nm
  have hd := h.det
  refine Rm.det ?_
  unfold g_is_step
  refine Rm.run rfl ?_
  unfold b_is_step
  cases st with
  | map n w a =>
    unfold Stp.d; show Rm (gSeq _ _ [.d (.tup _), .no]) s _; walk_at "rm"
    refine Rm.eq (name_ok hnm s) ?_
    walk_at "rm"
    refine Rm.eq (name_ok hd s) ?_
    walk_at "rm"
    refine Rm.eq (operands_ok (.map n w a) s) ?_
    walk_at "rm"
    refine ⟨by rw [List.length_map]; omega, ?_⟩
    refine Rm.eq (names_all h.ops 1 _ s fun _ => rfl) ?_
    walk_at "rm"
    exact Rm.eq (details_ok h s) ⟨rfl, rfl⟩
  | comb k n w a b =>
   cases k with
   | false =>
    unfold Stp.d; show Rm (gSeq _ _ [.d (.tup _), .no]) s _; walk_at "rm"
    refine Rm.eq (name_ok hnm s) ?_
    walk_at "rm"
    refine Rm.eq (name_ok hd s) ?_
    walk_at "rm"
    refine Rm.eq (operands_ok (.comb false n w a b) s) ?_
    walk_at "rm"
    refine ⟨by rw [List.length_map]; omega, ?_⟩
    refine Rm.eq (names_all h.ops 1 _ s fun _ => rfl) ?_
    walk_at "rm"
    exact Rm.eq (details_ok h s) ⟨rfl, rfl⟩
   | true =>
    unfold Stp.d; show Rm (gSeq _ _ [.d (.tup _), .no]) s _; walk_at "rm"
    refine Rm.eq (name_ok hnm s) ?_
    walk_at "rm"
    refine Rm.eq (name_ok hd s) ?_
    walk_at "rm"
    refine Rm.eq (operands_ok (.comb true n w a b) s) ?_
    walk_at "rm"
    refine ⟨by rw [List.length_map]; omega, ?_⟩
    refine Rm.eq (names_all h.ops 1 _ s fun _ => rfl) ?_
    walk_at "rm"
    exact Rm.eq (details_ok h s) ⟨rfl, rfl⟩
  | red n w a ax k =>
    unfold Stp.d; show Rm (gSeq _ _ [.d (.tup _), .no]) s _; walk_at "rm"
    refine Rm.eq (name_ok hnm s) ?_
    walk_at "rm"
    refine Rm.eq (name_ok hd.1 s) ?_
    walk_at "rm"
    refine Rm.eq (operands_ok (.red n w a ax k) s) ?_
    walk_at "rm"
    refine ⟨by rw [List.length_map]; omega, ?_⟩
    refine Rm.eq (names_all h.ops 1 _ s fun _ => rfl) ?_
    walk_at "rm"
    exact Rm.eq (details_ok h s) ⟨rfl, rfl⟩
  | trans n a o =>
    unfold Stp.d; show Rm (gSeq _ _ [.d (.tup _), .no]) s _; walk_at "rm"
    refine Rm.eq (name_ok hnm s) ?_
    walk_at "rm"
    refine Rm.eq (operands_ok (.trans n a o) s) ?_
    walk_at "rm"
    refine ⟨by rw [List.length_map]; omega, ?_⟩
    refine Rm.eq (names_all h.ops 1 _ s fun _ => rfl) ?_
    walk_at "rm"
    exact Rm.eq (details_ok h s) ⟨rfl, rfl⟩
  | prod n a b =>
    unfold Stp.d; show Rm (gSeq _ _ [.d (.tup _), .no]) s _; walk_at "rm"
    refine Rm.eq (name_ok hnm s) ?_
    walk_at "rm"
    refine Rm.eq (operands_ok (.prod n a b) s) ?_
    walk_at "rm"
    refine ⟨by rw [List.length_map]; omega, ?_⟩
    refine Rm.eq (names_all h.ops 1 _ s fun _ => rfl) ?_
    walk_at "rm"
    exact Rm.eq (details_ok h s) ⟨rfl, rfl⟩
  | insr n a ax =>
    unfold Stp.d; show Rm (gSeq _ _ [.d (.tup _), .no]) s _; walk_at "rm"
    refine Rm.eq (name_ok hnm s) ?_
    walk_at "rm"
    refine Rm.eq (operands_ok (.insr n a ax) s) ?_
    walk_at "rm"
    refine ⟨by rw [List.length_map]; omega, ?_⟩
    refine Rm.eq (names_all h.ops 1 _ s fun _ => rfl) ?_
    walk_at "rm"
    exact Rm.eq (details_ok h s) ⟨rfl, rfl⟩
  | remv n a ax =>
    unfold Stp.d; show Rm (gSeq _ _ [.d (.tup _), .no]) s _; walk_at "rm"
    refine Rm.eq (name_ok hnm s) ?_
    walk_at "rm"
    refine Rm.eq (operands_ok (.remv n a ax) s) ?_
    walk_at "rm"
    refine ⟨by rw [List.length_map]; omega, ?_⟩
    refine Rm.eq (names_all h.ops 1 _ s fun _ => rfl) ?_
    walk_at "rm"
    exact Rm.eq (details_ok h s) ⟨rfl, rfl⟩
  | sqz n a =>
    unfold Stp.d; show Rm (gSeq _ _ [.d (.tup _), .no]) s _; walk_at "rm"
    refine Rm.eq (name_ok hnm s) ?_
    walk_at "rm"
    refine Rm.eq (operands_ok (.sqz n a) s) ?_
    walk_at "rm"
    refine ⟨by rw [List.length_map]; omega, ?_⟩
    refine Rm.eq (names_all h.ops 1 _ s fun _ => rfl) ?_
    walk_at "rm"
    exact Rm.eq (details_ok h s) ⟨rfl, rfl⟩
  | strch n a sh =>
    unfold Stp.d; show Rm (gSeq _ _ [.d (.tup _), .no]) s _; walk_at "rm"
    refine Rm.eq (name_ok hnm s) ?_
    walk_at "rm"
    refine Rm.eq (operands_ok (.strch n a sh) s) ?_
    walk_at "rm"
    refine ⟨by rw [List.length_map]; omega, ?_⟩
    refine Rm.eq (names_all h.ops 1 _ s fun _ => rfl) ?_
    walk_at "rm"
    exact Rm.eq (details_ok h s) ⟨rfl, rfl⟩
  | stck n as ax =>
    unfold Stp.d; show Rm (gSeq _ _ [.d (.tup _), .no]) s _; walk_at "rm"
    refine Rm.eq (name_ok hnm s) ?_
    walk_at "rm"
    refine Rm.chainT (decide_eq_true (by rw [List.length_map]; have := hd.1; omega)) ?_
    walk_at "rm"
    refine Rm.ifF (by rw [decide_eq_true (by rw [List.length_map]; have := hd.2.1; omega)]; rfl) ?_
    walk_at "rm"
    refine Rm.eq (operands_ok (.stck n as ax) s) ?_
    walk_at "rm"
    refine ⟨by rw [List.length_map]; omega, ?_⟩
    refine Rm.eq (names_all h.ops 1 _ s fun _ => rfl) ?_
    walk_at "rm"
    refine Rm.lift (all_true _) ?_
    walk_at "rm"
    exact Rm.eq (details_ok h s) ⟨rfl, rfl⟩
  | sel n a ax i =>
    unfold Stp.d; show Rm (gSeq _ _ [.d (.tup _), .no]) s _; walk_at "rm"
    refine Rm.eq (name_ok hnm s) ?_
    walk_at "rm"
    refine Rm.eq (operands_ok (.sel n a ax i) s) ?_
    walk_at "rm"
    refine ⟨by rw [List.length_map]; omega, ?_⟩
    refine Rm.eq (names_all h.ops 1 _ s fun _ => rfl) ?_
    walk_at "rm"
    exact Rm.eq (details_ok h s) ⟨rfl, rfl⟩

end Q

set_option Elab.async false
set_option linter.all false
set_option maxRecDepth 100000
set_option maxHeartbeats 4000000
namespace Q
open PySem PySem.Spec PyProof.Rows L2 DL
theorem listed_ok (xs : List D) (s : FS) : g_is_listed [.lst xs] s = .ok (.bl true) s := by
  refine Rm.det ?_
  unfold g_is_listed
  refine Rm.run rfl ?_
  unfold b_is_listed
  show Rm (gRet _ [.d (.lst xs)]) s _
  walk_at "rm"
  exact ⟨rfl, rfl⟩
/-- an input -/
def inpD (p : Str × List D) : D := .tup [.str p.1, .tup p.2]
theorem enum_cons {k : Nat} {α : Type} {f : α → D} {l : List α} {x : D} {r : List D} (h : x :: r = enumD k (l.map f)) : ∃ p l', l = p :: l' ∧ x = .tup [.int (k : Nat), f p] ∧ r = enumD (k + 1) (l'.map f) := by
  cases l with
  | nil => cases h
  | cons p l' =>
    rw [List.map_cons, enumD] at h
    injection h with h1 h2
    exact ⟨p, l', rfl, h1, h2⟩
theorem enum_nil {k : Nat} {α : Type} {f : α → D} {l : List α} (h : ([] : List D) = enumD k (l.map f)) : l = [] := by
  cases l with
  | nil => rfl
  | cons p l' => rw [List.map_cons, enumD] at h; cases h
theorem check_inputs_ok {ins : List (Str × List D)} (h1 : 1 ≤ ins.length) (h4 : ins.length ≤ 4) (hn : ∀ p, p ∈ ins → nameB p.1 = true) (hs : ∀ p, p ∈ ins → shpB p.2 = true) (hd : (ins.map (·.1)).Nodup) (s : FS) : g_check_inputs [.lst (ins.map inpD)] s = .ok .non s := by
  have hsz : sizeLine = 16777216 := rfl
  refine Rm.det ?_
  unfold g_check_inputs
  refine Rm.run rfl ?_
  unfold b_check_inputs
  show Rm (gSeq _ _ [.d (.lst (ins.map inpD)), .no, .no, .no]) s _
  walk_at "rm"
  refine Rm.eq (listed_ok _ s) ?_
  walk_at "rm"
  refine Rm.chainT (decide_eq_true (by rw [List.length_map]; omega)) ?_
  walk_at "rm"
  refine Rm.ifF (by rw [decide_eq_true (by rw [List.length_map]; omega)]; rfl) ?_
  walk_at "rm"
  refine Rm.loop (fun xs ρ s' => ∃ (dn rest : List (Str × List D)) (k : Nat) (e2 e3 : EV), xs = enumD k (rest.map inpD) ∧ ins = dn ++ rest ∧ ρ = [.d (.lst (ins.map inpD)), .ol ((dn.map (·.1)).map .str), e2, e3] ∧ s' = s) ⟨[], ins, 0, _, _, rfl, rfl, rfl, rfl⟩ ?_ ?_
  · rintro x r ρ s' ⟨dn, rest, k, e2, e3, hx, hi, rfl, rfl⟩
    obtain ⟨p, rest', rfl, rfl, rfl⟩ := enum_cons hx
    have hm : p ∈ ins := by rw [hi]; simp
    have hnm : p.1 ∉ dn.map (·.1) := fun hc => by
      rw [hi, List.map_append, List.map_cons] at hd
      exact (List.nodup_append.mp hd).2.2 _ hc _ List.mem_cons_self rfl
    have hlen : dn.length ≤ 4 := by
      have := congrArg List.length hi
      rw [List.length_append] at this
      omega
    refine ⟨_, rfl, ?_⟩
    show Rm (gSeq _ _ [.d (.lst (ins.map inpD)), .ol ((dn.map (·.1)).map .str), .d (.int k), .d (.tup [.str p.1, .tup p.2])]) _ _
    walk_at "rm"
    refine Rm.eq (name_ok (hn p hm) _) ?_
    walk_at "rm"
    refine Rm.eq (shape_ok (hs p hm) _) ?_
    walk_at "rm"
    refine Rm.lift (in_strs _ _) ?_
    walk_at "rm"
    refine Rm.ifF (by simpa using hnm) ?_
    walk_at "rm"
    refine Rm.vmt rfl ?_
    walk_at "rm"
    refine Rm.mtk rfl ?_
    refine Rm.app (by rw [List.length_map, List.length_map]; omega) ?_
    refine ⟨dn ++ [p], rest', k + 1, .d (.int k), .d (.tup [.str p.1, .tup p.2]), rfl, by rw [hi]; simp, ?_, rfl⟩
    rw [List.map_append, List.map_append]
    rfl
  · rintro ρ s' ⟨dn, rest, k, e2, e3, hx, hi, rfl, rfl⟩
    walk_at "rm"
    exact ⟨rfl, rfl⟩
def Fresh : List Str → List Stp → Prop
  | _, [] => True
  | kn, st :: r => st.nm ∉ kn ∧ (∀ x, x ∈ st.ops → x ∈ kn) ∧ Fresh (kn ++ [st.nm]) r
theorem ix0 (st : Stp) : ixD st.d (.int 0) = some (.str st.nm) := by
  cases st with
  | comb k => cases k <;> rfl
  | _ => rfl
theorem ix1 (st : Stp) : ixD st.d (.int 1) = some (.str st.kd) := by
  cases st with
  | comb k => cases k <;> rfl
  | _ => rfl
theorem check_steps_ok {kn : List Str} {sts : List Stp} (hk : kn.length ≤ 1000) (hl : sts.length ≤ 10) (hok : ∀ st, st ∈ sts → st.Ok) (hf : Fresh kn sts) (s : FS) : g_check_steps [.lst (kn.map .str), .lst (sts.map Stp.d), .int 10] s = .ok .non s := by
  have hsz : sizeLine = 16777216 := rfl
  refine Rm.det ?_
  unfold g_check_steps
  refine Rm.run rfl ?_
  unfold b_check_steps
  show Rm (gSeq _ _ [.d (.lst (kn.map .str)), .d (.lst (sts.map Stp.d)), .d (.int 10), .no, .no, .no, .no]) s _
  walk_at "rm"
  refine Rm.eq (listed_ok _ s) ?_
  walk_at "rm"
  refine Rm.ifF (decide_eq_false (by rw [List.length_map]; omega)) ?_
  walk_at "rm"
  refine Rm.loop (fun xs ρ s' => ∃ (kn' : List Str) (rest : List Stp) (k : Nat) (e4 e5 e6 : EV), xs = enumD k (rest.map Stp.d) ∧ (∀ st, st ∈ rest → st.Ok) ∧ Fresh kn' rest ∧ kn'.length + rest.length ≤ 1010 ∧ ρ = [.d (.lst (kn.map .str)), .d (.lst (sts.map Stp.d)), .d (.int 10), .ol (kn'.map .str), e4, e5, e6] ∧ s' = s) ⟨kn, sts, 0, _, _, _, rfl, hok, hf, by omega, rfl, rfl⟩ ?_ ?_
  · rintro x r ρ s' ⟨kn', rest, k, e4, e5, e6, hx, ho, hf, hlen, rfl, rfl⟩
    obtain ⟨st, rest', rfl, rfl, rfl⟩ := enum_cons hx
    have so := ho st List.mem_cons_self
    obtain ⟨hf1, hf2, hf3⟩ := hf
    rw [List.length_cons] at hlen
    refine ⟨_, rfl, ?_⟩
    show Rm (gSeq _ _ [.d (.lst (kn.map .str)), .d (.lst (sts.map Stp.d)), .d (.int 10), .ol (kn'.map .str), .d (.int k), .d st.d, e6]) _ _
    walk_at "rm"
    refine Rm.eq (is_step_ok so _) ?_
    walk_at "rm"
    have h0 := ix0 st
    refine Rm.lift h0 ?_
    walk_at "rm"
    refine Rm.lift (in_strs _ _) ?_
    walk_at "rm"
    refine Rm.ifF (by simpa using hf1) ?_
    walk_at "rm"
    refine Rm.eq (operands_ok st _) ?_
    walk_at "rm"
    refine Rm.loop (fun xs ρ s2 => ∃ e6, (∀ x, x ∈ xs → ∃ y, x = D.str y ∧ y ∈ kn') ∧ ρ = [.d (.lst (kn.map .str)), .d (.lst (sts.map Stp.d)), .d (.int 10), .ol (kn'.map .str), .d (.int k), .d st.d, e6] ∧ s2 = s') ⟨_, fun x hx => ?_, rfl, rfl⟩ ?_ ?_
    · obtain ⟨y, hy, rfl⟩ := List.mem_map.mp hx
      exact ⟨y, rfl, hf2 y hy⟩
    · rintro x r ρ s2 ⟨e6, hx, rfl, rfl⟩
      obtain ⟨y, rfl, hy⟩ := hx x List.mem_cons_self
      refine ⟨_, rfl, ?_⟩
      show Rm (gIf _ _ _ [.d (.lst (kn.map .str)), .d (.lst (sts.map Stp.d)), .d (.int 10), .ol (kn'.map .str), .d (.int k), .d st.d, .d (.str y)]) _ _
      walk_at "rm"
      refine Rm.lift (nin_strs _ _) ?_
      walk_at "rm"
      refine Rm.ifF (by simpa using hy) ?_
      walk_at "rm"
      exact ⟨_, fun z hz => hx z (List.mem_cons_of_mem _ hz), rfl, rfl⟩
    · rintro ρ s2 ⟨e6, _, rfl, rfl⟩
      walk_at "rm"
      refine Rm.vmt rfl ?_
      walk_at "rm"
      refine Rm.lift h0 ?_
      walk_at "rm"
      refine Rm.mtk rfl ?_
      refine Rm.app (by rw [List.length_map]; omega) ?_
      refine ⟨kn' ++ [st.nm], rest', k + 1, .d (.int k), .d st.d, e6, rfl, fun z hz => ho z (List.mem_cons_of_mem _ hz), hf3, by rw [List.length_append]; show kn'.length + 1 + _ ≤ _; omega, ?_, rfl⟩
      rw [List.map_append]
      rfl
  · rintro ρ s' ⟨kn', rest, k, e4, e5, e6, hx, ho, hf, hlen, rfl, rfl⟩
    walk_at "rm"
    exact ⟨rfl, rfl⟩

end Q

set_option Elab.async false
set_option linter.all false
set_option maxRecDepth 100000
set_option maxHeartbeats 4000000
namespace Q
open PySem PySem.Spec PyProof.Rows L2 DL
section
variable {α : Type} {l : List α} {ρ : Env'} {s : FS} {b b1 : D → Option Asg} {c c1 : Env' → M Bool} {it1 : Env' → M (List D)} {f : Env' → M D}
theorem lcA (h : α → D) (p : α → Bool) (G : α → D) (H : ∀ a, a ∈ l → ∃ as, b (h a) = some as ∧ c (setE as ρ) s = .ok (p a) s ∧ (p a = true → f (setE as ρ) s = .ok (G a) s)) : lcE b c f (l.map h) ρ s = .ok ((l.filter p).map G) s := by
  induction l with
  | nil => rfl
  | cons x r ih =>
    obtain ⟨as, e, h1, h2⟩ := H x List.mem_cons_self
    have ih := ih fun x hx => H x (List.mem_cons_of_mem _ hx)
    refine Rm.det ?_
    show Rm (M.bind (M.lift (b (h x))) _) s _
    rw [e]
    refine Rm.bind (Rm.lift rfl (Rm.bind (Rm.eq h1 ?_)))
    cases hp : p x with
    | true =>
      rw [List.filter_cons_of_pos hp]
      rw [if_pos rfl]
      exact Rm.bind (Rm.eq (h2 hp) (Rm.bind (Rm.eq ih ⟨⟨rfl, rfl⟩⟩)))
    | false =>
      rw [List.filter_cons_of_neg (by rw [hp]; decide)]
      rw [if_neg (by decide)]
      exact Rm.eq ih ⟨rfl, rfl⟩
theorem lcM (h : α → D) (G : α → D) (H : ∀ a, a ∈ l → ∃ as, b (h a) = some as ∧ f (setE as ρ) s = .ok (G a) s) : lcE b cYes f (l.map h) ρ s = .ok (l.map G) s := by
  have := lcA (c := cYes) (l := l) (b := b) (f := f) (ρ := ρ) (s := s) h (fun _ => true) G fun x hx => by
    obtain ⟨as, e, h1⟩ := H x hx
    exact ⟨as, e, rfl, fun _ => h1⟩
  rw [this, List.filter_eq_self.mpr fun _ _ => rfl]
theorem lcE2A (h : α → D) (G : α → List D) (H : ∀ a, a ∈ l → ∃ as, b (h a) = some as ∧ c (setE as ρ) s = .ok true s ∧ ∃ ys, it1 (setE as ρ) s = .ok ys s ∧ lcE b1 c1 f ys (setE as ρ) s = .ok (G a) s) : lcE2 b c it1 b1 c1 f (l.map h) ρ s = .ok (l.flatMap G) s := by
  induction l with
  | nil => rfl
  | cons x r ih =>
    obtain ⟨as, e, h1, ys, h2, h3⟩ := H x List.mem_cons_self
    have ih := ih fun x hx => H x (List.mem_cons_of_mem _ hx)
    refine Rm.det ?_
    show Rm (M.bind (M.lift (b (h x))) _) s _
    rw [e]
    refine Rm.bind (Rm.lift rfl (Rm.bind (Rm.eq h1 ?_)))
    rw [if_pos rfl]
    exact Rm.bind (Rm.eq h2 (Rm.bind (Rm.eq h3 (Rm.bind (Rm.eq ih ⟨⟨by rw [List.flatMap_cons], rfl⟩⟩)))))
end
/-- a number or a text -/
def NsD (d : D) : Prop := (∃ x, d = .str x) ∨ ∃ i, d = .int i
def strB : D → Bool
  | .str _ => true
  | _ => false
def intB : D → Bool
  | .int _ => true
  | _ => false
def sLets : List D → List Str
  | [] => []
  | .str x :: r => x :: sLets r
  | _ :: r => sLets r
def sInts : List D → List Int
  | [] => []
  | .int x :: r => x :: sInts r
  | _ :: r => sInts r
theorem sLets_eq : ∀ xs : List D, (xs.filter strB).map id = (sLets xs).map D.str
  | [] => rfl
  | .str x :: r => by rw [List.filter_cons_of_pos rfl, List.map_cons, sLets_eq r]; rfl
  | .non :: r => by rw [List.filter_cons_of_neg (by decide), sLets_eq r]; rfl
  | .bl _ :: r => by rw [List.filter_cons_of_neg (by simp [strB, intB]), sLets_eq r]; rfl
  | .int _ :: r => by rw [List.filter_cons_of_neg (by simp [strB]), sLets_eq r]; rfl
  | .tup _ :: r => by rw [List.filter_cons_of_neg (by simp [strB]), sLets_eq r]; rfl
  | .lst _ :: r => by rw [List.filter_cons_of_neg (by simp [strB]), sLets_eq r]; rfl
  | .dic _ :: r => by rw [List.filter_cons_of_neg (by simp [strB]), sLets_eq r]; rfl
  | .ins _ _ :: r => by rw [List.filter_cons_of_neg (by simp [strB]), sLets_eq r]; rfl
  | .feed :: r => by rw [List.filter_cons_of_neg (by simp [strB]), sLets_eq r]; rfl
  | .opq _ :: r => by rw [List.filter_cons_of_neg (by simp [strB]), sLets_eq r]; rfl
  | .scr _ :: r => by rw [List.filter_cons_of_neg (by simp [strB]), sLets_eq r]; rfl
theorem sInts_eq : ∀ xs : List D, (xs.filter intB).map id = (sInts xs).map D.int
  | [] => rfl
  | .int x :: r => by rw [List.filter_cons_of_pos rfl, List.map_cons, sInts_eq r]; rfl
  | .non :: r => by rw [List.filter_cons_of_neg (by decide), sInts_eq r]; rfl
  | .bl _ :: r => by rw [List.filter_cons_of_neg (by simp [strB, intB]), sInts_eq r]; rfl
  | .str _ :: r => by rw [List.filter_cons_of_neg (by simp [intB]), sInts_eq r]; rfl
  | .tup _ :: r => by rw [List.filter_cons_of_neg (by simp [intB]), sInts_eq r]; rfl
  | .lst _ :: r => by rw [List.filter_cons_of_neg (by simp [intB]), sInts_eq r]; rfl
  | .dic _ :: r => by rw [List.filter_cons_of_neg (by simp [intB]), sInts_eq r]; rfl
  | .ins _ _ :: r => by rw [List.filter_cons_of_neg (by simp [intB]), sInts_eq r]; rfl
  | .feed :: r => by rw [List.filter_cons_of_neg (by simp [intB]), sInts_eq r]; rfl
  | .opq _ :: r => by rw [List.filter_cons_of_neg (by simp [intB]), sInts_eq r]; rfl
  | .scr _ :: r => by rw [List.filter_cons_of_neg (by simp [intB]), sInts_eq r]; rfl
theorem flat_map {α β γ : Type} (f : β → γ) (g : α → List β) : ∀ l : List α, l.flatMap (fun a => (g a).map f) = (l.flatMap g).map f
  | [] => rfl
  | x :: r => by rw [List.flatMap_cons, List.flatMap_cons, List.map_append, flat_map f g r]
theorem sLets_len : ∀ xs : List D, (sLets xs).length ≤ xs.length
  | [] => Nat.le_refl _
  | d :: r => by have := sLets_len r; cases d <;> simp [sLets] <;> omega
theorem sInts_len : ∀ xs : List D, (sInts xs).length ≤ xs.length
  | [] => Nat.le_refl _
  | d :: r => by have := sInts_len r; cases d <;> simp [sInts] <;> omega
theorem flat_len {α β : Type} {g : α → List β} {n : Nat} : ∀ {l : List α}, (∀ a, a ∈ l → (g a).length ≤ n) → (l.flatMap g).length ≤ l.length * n
  | [], _ => Nat.zero_le _
  | x :: r, h => by
    rw [List.flatMap_cons, List.length_append, List.length_cons, Nat.succ_mul]
    have := h x List.mem_cons_self
    have := flat_len (l := r) fun a ha => h a (List.mem_cons_of_mem _ ha)
    omega
theorem strs_all {xs : List Str} : (xs.map D.str).all isStrD = true := by
  rw [List.all_eq_true]
  intro y hy
  obtain ⟨z, _, rfl⟩ := List.mem_map.mp hy
  rfl
theorem Rm.lstar {ρ : Env'} {s : FS} {f1 : Env' → M D} {fl : Env' → M (List D)} {QL : List D → FS → Prop} (h : Rm (f1 ρ) s fun x s => Rm (M.lift (seqD x)) s fun xs s => Rm (fl ρ) s fun ys s => QL (xs ++ ys) s) : Rm (lStar f1 fl ρ) s QL := Rm.bind (h.mono fun _ _ h => Rm.bind (h.mono fun _ _ h => Rm.bindP h))
def letsOf (shs : List (List D)) : List Str := sortDd (shs.flatMap sLets)
theorem letters_ok {shs : List (List D)} (hl : shs.length ≤ 40) (h : ∀ sh, sh ∈ shs → sh.length ≤ 10 ∧ ∀ d, d ∈ sh → NsD d) (s : FS) : g_letters_of (shs.map D.tup) s = .ok (.lst ((letsOf shs).map .str)) s := by
  have hsz : sizeLine = 16777216 := rfl
  refine Rm.det ?_
  unfold g_letters_of
  refine Rm.star ⟨Nat.zero_le _, by rw [List.length_map]; omega⟩ ?_
  refine Rm.run rfl ?_
  unfold b_letters_of
  show Rm (gRet _ [.d (.tup (shs.map D.tup)), .no, .no]) s _
  walk_at "rm"
  refine Rm.lc2 (ys := (shs.flatMap sLets).map .str) ?_
  walk_at "rm"
  refine ⟨?_, ?_, ?_⟩
  · rw [← flat_map]
    refine lcE2A D.tup _ fun sh hsh => ?_
    refine ⟨_, rfl, rfl, sh, Rm.det ?_, ?_⟩
    · walk_at "rm"
      exact ⟨rfl, rfl⟩
    · rw [← sLets_eq]
      have := lcA (l := sh) (b := bName 2) (c := cTru (dFn isiD (lCons (dVar 2) (lCons (dC (.opq (.ty "str"))) lNil)))) (f := dVar 2) (ρ := setE [(1, .tup sh)] (wipeE (mask [.d (.tup (shs.map D.tup)), .no, .no]) [1, 2])) (s := s) id strB id fun d hd => by
        refine ⟨_, rfl, Rm.det ?_, fun _ => rfl⟩
        rcases (h sh hsh).2 d hd with ⟨x, rfl⟩ | ⟨i, rfl⟩
        · walk_at "rm"; exact ⟨rfl, rfl⟩
        · walk_at "rm"; exact ⟨rfl, rfl⟩
      rw [List.map_id] at this
      exact this
  · unfold fitsL
    rw [strs_all, Bool.and_true, decide_eq_true_iff, List.length_map]
    have := flat_len (g := sLets) (n := 10) (l := shs) fun sh hsh => Nat.le_trans (sLets_len sh) (h sh hsh).1
    omega
  · refine Rm.lift (a := .lst ((letsOf shs).map .str)) ?_ ?_
    · unfold sortSetD
      rw [strsD_map]
      rfl
    · walk_at "rm"
      exact ⟨rfl, rfl⟩
theorem maxD_ok {ns : List Int} (h : ns ≠ []) : ∃ m : Int, maxD [.lst (ns.map D.int)] = some (.int m) := by
  refine ⟨maxL ns, ?_⟩
  show (intsD (ns.map D.int)).bind _ = _
  rw [ints_ints]
  show (if ns = [] then none else some (D.int (maxL ns))) = _
  rw [if_neg h]
def stkB (st : Stp) : Bool := match st with
  | .stck .. => true
  | _ => false
def stkN (st : Stp) : Int := match st with
  | .stck _ as _ => as.length
  | _ => 0
def selB (st : Stp) : Bool := match st with
  | .sel .. => true
  | _ => false
def strchB (st : Stp) : Bool := match st with
  | .strch .. => true
  | _ => false
def strchS (st : Stp) : List D := match st with
  | .strch _ _ sh => sh
  | _ => []
theorem bound_ok {shs : List (List D)} {sts : List Stp} (hl : shs.length ≤ 40) (hl2 : sts.length ≤ 40) (h : ∀ sh, sh ∈ shs → sh.length ≤ 10 ∧ ∀ d, d ∈ sh → NsD d) (s : FS) : ∃ m : Int, g_bound_of [.lst (shs.map D.tup), .lst (sts.map Stp.d)] s = .ok (.int m) s := by
  have hsz : sizeLine = 16777216 := rfl
  have hne : ([2] ++ shs.flatMap sInts ++ (sts.filter stkB).map stkN) ++ ((sts.filter selB).map (fun _ => (3 : Int)) ++ []) ≠ [] := by simp
  obtain ⟨m, hm⟩ := maxD_ok hne
  have hf := flat_len (g := sInts) (n := 10) (l := shs) fun sh hsh => Nat.le_trans (sInts_len sh) (h sh hsh).1
  have hg1 : (sts.filter stkB).length ≤ 40 := Nat.le_trans (List.length_filter_le _ _) hl2
  have hg2 : (sts.filter selB).length ≤ 40 := Nat.le_trans (List.length_filter_le _ _) hl2
  refine ⟨m, Rm.det ?_⟩
  unfold g_bound_of
  refine Rm.run rfl ?_
  unfold b_bound_of
  show Rm (gSeq _ _ [.d (.lst (shs.map D.tup)), .d (.lst (sts.map Stp.d)), .no, .no, .no, .no]) s _
  walk_at "rm"
  refine Rm.lc2 (ys := (shs.flatMap sInts).map .int) ?_
  walk_at "rm"
  refine ⟨?_, ?_, ?_⟩
  · rw [← flat_map]
    refine lcE2A D.tup _ fun sh hsh => ?_
    refine ⟨_, rfl, rfl, sh, Rm.det ?_, ?_⟩
    · walk_at "rm"
      exact ⟨rfl, rfl⟩
    · rw [← sInts_eq]
      have := lcA (l := sh) (b := bName 4) (c := cTru (dCall g_is_number (lCons (dVar 4) lNil))) (f := dVar 4) (ρ := setE [(3, .tup sh)] (wipeE (mask [.d (.lst (shs.map D.tup)), .d (.lst (sts.map Stp.d)), .no, .no, .no, .no]) [3, 4])) (s := s) id intB id fun d hd => by
        refine ⟨_, rfl, Rm.det ?_, fun _ => rfl⟩
        rcases (h sh hsh).2 d hd with ⟨x, rfl⟩ | ⟨i, rfl⟩
        · walk_at "rm"; refine Rm.eq (number_str _ _) ?_; walk_at "rm"; exact ⟨rfl, rfl⟩
        · walk_at "rm"; refine Rm.eq (number_int _ _) ?_; walk_at "rm"; exact ⟨rfl, rfl⟩
      rw [List.map_id] at this
      exact this
  · unfold fitsL
    rw [show ((shs.flatMap sInts).map D.int).all (fun _ => true) = true by simp, Bool.and_true, decide_eq_true_iff, List.length_map]
    omega
  · walk_at "rm"
    · simp only [List.length_cons, List.length_nil, List.length_map]; omega
    walk_at "rm"
    refine ⟨by rw [List.length_map]; omega, ?_⟩
    refine Rm.eq (lcA Stp.d stkB (fun st => .int (stkN st)) fun st hst => ?_) ?_
    · refine ⟨_, rfl, Rm.det ?_, fun hk => Rm.det ?_⟩
      · walk_at "rm"
        refine Rm.lift (ix1 st) ?_
        walk_at "rm"
        refine ⟨?_, rfl⟩
        cases st with
        | comb k => cases k <;> rfl
        | _ => rfl
      · cases st with
        | stck n as ax =>
          walk_at "rm"
          refine ⟨?_, rfl⟩
          show D.int ((as.map D.str).length : Nat) = D.int (as.length : Nat)
          rw [List.length_map]
        | _ => cases hk
    · walk_at "rm"
      · simp only [List.length_append, List.length_cons, List.length_nil, List.length_map]; omega
      walk_at "rm"
      refine Rm.lstar ?_
      walk_at "rm"
      refine Rm.lstar ?_
      walk_at "rm"
      refine ⟨by rw [List.length_map]; omega, ?_⟩
      refine Rm.eq (lcA Stp.d selB (fun st => .int 3) fun st hst => ?_) ?_
      · refine ⟨_, rfl, Rm.det ?_, fun hk => Rm.det ?_⟩
        · walk_at "rm"
          refine Rm.lift (ix1 st) ?_
          walk_at "rm"
          refine ⟨?_, rfl⟩
          cases st with
          | comb k => cases k <;> rfl
          | _ => rfl
        · walk_at "rm"
          exact ⟨rfl, rfl⟩
      · walk_at "rm"
        refine Rm.lift (show mkLst _ = some (.lst ((([2] ++ shs.flatMap sInts ++ (sts.filter stkB).map stkN) ++ ((sts.filter selB).map (fun _ => (3 : Int)) ++ [])).map .int)) from ?_) ?_
        · unfold mkLst
          rw [if_pos (by simp only [List.length_append, List.length_cons, List.length_nil, List.length_map]; omega)]
          simp only [List.map_append, List.map_map, List.map_cons, List.map_nil]
          rfl
        · walk_at "rm"
          refine Rm.lift hm ?_
          walk_at "rm"
          exact ⟨rfl, rfl⟩

end Q

set_option Elab.async false
set_option linter.all false
set_option maxRecDepth 100000
set_option maxHeartbeats 4000000
namespace Q
open PySem PySem.Spec PyProof.Rows L2 DL
/-- a check: its relation, the rest of it -/
def chkD (c : Str × List D) : D := .tup (.str c.1 :: c.2)
theorem check_ok {rel l : Str} {x : D} (hr : rel = "equal" ∨ rel = "unequal") (hl : letB l = true) (hx : (∃ i, x = .int i ∧ 1 ≤ i ∧ i ≤ 3) ∨ ∃ m, x = .str m ∧ letB m = true ∧ m ≠ l) (s : FS) : g_is_check [chkD (rel, [.str l, x])] s = .ok (.bl true) s := by
  refine Rm.det ?_
  unfold g_is_check
  refine Rm.run rfl ?_
  unfold b_is_check
  show Rm (gSeq _ _ [.d (.tup [.str rel, .str l, x])]) s _
  rcases hr with rfl | rfl
  all_goals
    walk_at "rm"
    refine Rm.eq (letter_ok hl s) ?_
    walk_at "rm"
    rcases hx with ⟨i, rfl, h1, h2⟩ | ⟨m, rfl, hm, ne⟩
    · refine Rm.eq (between_int i 1 3 s) ?_
      walk_at "rm"
      refine Rm.ifT (decide_eq_true ⟨h1, h2⟩) ?_
      refine Rm.pure ?_
      walk_at "rm"
      exact ⟨by rw [decide_eq_true ⟨h1, h2⟩], rfl⟩
    · have hb : g_is_between [.str m, .int 1, .int 3] s = .ok (.bl false) s := by
        refine Rm.det ?_
        unfold g_is_between
        refine Rm.run rfl ?_
        unfold b_is_between
        show Rm (gRet _ [.d (.str m), .d (.int 1), .d (.int 3)]) s _
        walk_at "rm"
        refine Rm.eq (number_str m s) ?_
        walk_at "rm"
        exact ⟨rfl, rfl⟩
      refine Rm.eq hb ?_
      walk_at "rm"
      refine Rm.eq (letter_ok hm s) ?_
      walk_at "rm"
      refine ⟨?_, rfl⟩
      simp [ne]
theorem check_checks_ok {cs : List (Str × List D)} (hl : cs.length ≤ 8) (h : ∀ c, c ∈ cs → ∀ s, g_is_check [chkD c] s = .ok (.bl true) s) (s : FS) : g_check_checks [.lst (cs.map chkD)] s = .ok .non s := by
  refine Rm.det ?_
  unfold g_check_checks
  refine Rm.run rfl ?_
  unfold b_check_checks
  show Rm (gSeq _ _ [.d (.lst (cs.map chkD)), .no, .no]) s _
  walk_at "rm"
  refine Rm.eq (listed_ok _ s) ?_
  walk_at "rm"
  refine Rm.ifF (decide_eq_false (by rw [List.length_map]; omega)) ?_
  walk_at "rm"
  refine Rm.loop (fun xs ρ s' => ∃ (rest : List (Str × List D)) (k : Nat) (e1 e2 : EV), xs = enumD k (rest.map chkD) ∧ (∀ c, c ∈ rest → c ∈ cs) ∧ ρ = [.d (.lst (cs.map chkD)), e1, e2] ∧ s' = s) ⟨cs, 0, _, _, rfl, fun _ h => h, rfl, rfl⟩ ?_ ?_
  · rintro x r ρ s' ⟨rest, k, e1, e2, hx, hm, rfl, rfl⟩
    obtain ⟨c, rest', rfl, rfl, rfl⟩ := enum_cons hx
    refine ⟨_, rfl, ?_⟩
    show Rm (gIf _ _ _ [.d (.lst (cs.map chkD)), .d (.int k), .d (chkD c)]) _ _
    walk_at "rm"
    refine Rm.eq (h c (hm c List.mem_cons_self) _) ?_
    walk_at "rm"
    exact ⟨rest', k + 1, _, _, rfl, fun z hz => hm z (List.mem_cons_of_mem _ hz), rfl, rfl⟩
  · rintro ρ s' ⟨rest, k, e1, e2, hx, hm, rfl, rfl⟩
    walk_at "rm"
    exact ⟨rfl, rfl⟩
def allShs (ins : List (Str × List D)) (sts : List Stp) (cs : List (Str × List D)) : List (List D) := ins.map (·.2) ++ (sts.filter strchB).map strchS ++ cs.map (·.2)
structure PrOk (ins : List (Str × List D)) (sts : List Stp) (cs : List (Str × List D)) : Prop where
  i1 : 1 ≤ ins.length
  i4 : ins.length ≤ 4
  inm : ∀ p, p ∈ ins → nameB p.1 = true
  ish : ∀ p, p ∈ ins → shpB p.2 = true
  ind : (ins.map (·.1)).Nodup
  sl : sts.length ≤ 10
  sok : ∀ st, st ∈ sts → st.Ok
  sfr : Fresh (ins.map (·.1)) sts
  cl : cs.length ≤ 8
  cok : ∀ c, c ∈ cs → (c.2.length ≤ 10 ∧ ∀ d, d ∈ c.2 → NsD d) ∧ ∀ s, g_is_check [chkD c] s = .ok (.bl true) s
  lt : (letsOf (allShs ins sts cs)).length ≤ 4
  l1 : ∀ x, x ∈ letsOf (allShs ins sts cs) → x.length = 1
def unstB (st : Stp) : Bool := match st with
  | .sqz .. => true
  | .sel .. => true
  | _ => false
def steadyB (sts : List Stp) (cs : List (Str × List D)) : Bool := cs.isEmpty && !(sts.any unstB)
def prF (ins : List (Str × List D)) (sts : List Stp) (cs : List (Str × List D)) (lt : Str) (bd : Int) : List (Str × D) :=
  [("own_inputs", .tup (ins.map inpD)), ("own_steps", .tup (sts.map Stp.d)), ("own_checks", .tup (cs.map chkD)), ("own_letters", .str lt), ("own_bound", .int bd), ("own_names", .lst (ins.map (fun p => D.str p.1) ++ sts.map fun st => D.str st.nm)), ("own_steady", .bl (steadyB sts cs))]
theorem shp_ns {sh : List D} (h : shpB sh = true) : sh.length ≤ 10 ∧ ∀ d, d ∈ sh → NsD d := by
  unfold shpB at h
  rw [Bool.and_eq_true, decide_eq_true_iff, List.all_eq_true] at h
  refine ⟨by omega, fun d hd => ?_⟩
  have := h.2 d hd
  cases d with
  | str x => exact .inl ⟨x, rfl⟩
  | int i => exact .inr ⟨i, rfl⟩
  | _ => cases this
theorem allShs_ok {ins : List (Str × List D)} {sts : List Stp} {cs : List (Str × List D)} (P : PrOk ins sts cs) : (allShs ins sts cs).length ≤ 40 ∧ ∀ sh, sh ∈ allShs ins sts cs → sh.length ≤ 10 ∧ ∀ d, d ∈ sh → NsD d := by
  have hg1 : (sts.filter strchB).length ≤ 10 := Nat.le_trans (List.length_filter_le _ _) P.sl
  unfold allShs
  refine ⟨?_, fun sh hsh => ?_⟩
  · rw [List.length_append, List.length_append, List.length_map, List.length_map, List.length_map]
    have := P.i4
    have := P.cl
    omega
  · rcases List.mem_append.mp hsh with hsh | hsh
    · rcases List.mem_append.mp hsh with hsh | hsh
      · obtain ⟨p, hp, rfl⟩ := List.mem_map.mp hsh
        exact shp_ns (P.ish p hp)
      · obtain ⟨st, hst, rfl⟩ := List.mem_map.mp hsh
        obtain ⟨h1, h2⟩ := List.mem_filter.mp hst
        cases st with
        | strch n a sh => exact shp_ns (P.sok _ h1).det
        | _ => cases h2
    · obtain ⟨c, hc, rfl⟩ := List.mem_map.mp hsh
      exact (P.cok c hc).1
theorem any_bls {α : Type} (p : α → Bool) : ∀ l : List α, anyD [.lst (l.map fun a => D.bl (p a))] = some (.bl (l.any p))
  | [] => rfl
  | a :: r => by
    have ih := any_bls p r
    have e : anyD [.lst (r.map fun a => D.bl (p a))] = (blsD (r.map fun a => D.bl (p a))).map fun bs => .bl (bs.any id) := rfl
    rw [e] at ih
    show ((blsD (r.map fun a => D.bl (p a))).map fun bs => p a :: bs).map (fun bs => D.bl (bs.any id)) = _
    cases q : blsD (r.map fun a => D.bl (p a)) with
    | none => rw [q] at ih; cases ih
    | some bs =>
      rw [q] at ih
      have ih : D.bl (bs.any id) = .bl (r.any p) := Option.some.inj ih
      injection ih with ih
      show some (D.bl ((p a :: bs).any id)) = some (D.bl ((a :: r).any p))
      rw [List.any_cons, List.any_cons, ih]
      rfl

end Q

set_option Elab.async false
set_option linter.all false
set_option maxRecDepth 100000
set_option maxHeartbeats 4000000
namespace Q
open PySem PySem.Spec PyProof.Rows L2 DL
theorem sum_ones : ∀ {l : List Str}, (∀ x, x ∈ l → x.length = 1) → (l.map (·.length)).sum = l.length
  | [], _ => rfl
  | x :: r, h => by
    rw [List.map_cons, List.sum_cons, List.length_cons, sum_ones fun y hy => h y (List.mem_cons_of_mem _ hy), h x List.mem_cons_self]
    omega
theorem init_ok {ins : List (Str × List D)} {sts : List Stp} {cs : List (Str × List D)} (P : PrOk ins sts cs) (s : FS) : ∃ (lt : Str) (bd : Int), ∀ x : Addr, gi_Program___init__ x [.lst (ins.map inpD), .lst (sts.map Stp.d), .lst (cs.map chkD)] s = .ok (prF ins sts cs lt bd) s := by
  have hsz : sizeLine = 16777216 := rfl
  obtain ⟨hz, hsh⟩ := allShs_ok P
  have hi := P.i4
  have hs := P.sl
  have hc := P.cl
  have hg1 : (sts.filter strchB).length ≤ 10 := Nat.le_trans (List.length_filter_le _ _) P.sl
  obtain ⟨bd, hbd⟩ := bound_ok (sts := sts) hz (by omega) hsh s
  refine ⟨Txt.join "" (letsOf (allShs ins sts cs)), bd, fun x => ?_⟩
  refine Rm.det ?_
  unfold gi_Program___init__
  refine Rm.init rfl ?_
  unfold b_Program___init__
  show Rm (gSeq _ _ [.oi x "Program" [], .d (.lst (ins.map inpD)), .d (.lst (sts.map Stp.d)), .d (.lst (cs.map chkD)), .no, .no, .no, .no, .no, .no, .no]) s _
  walk_at "rm"
  refine Rm.eq (check_inputs_ok P.i1 P.i4 P.inm P.ish P.ind s) ?_
  walk_at "rm"
  refine Rm.eq (check_checks_ok P.cl (fun c h => (P.cok c h).2) s) ?_
  walk_at "rm"
  refine ⟨by rw [List.length_map]; omega, ?_⟩
  refine Rm.eq (lcM inpD (fun p => D.str p.1) fun p hp => ⟨_, rfl, rfl⟩) ?_
  walk_at "rm"
  refine Rm.eq (a := .non) (s' := s) ?_ ?_
  · have := check_steps_ok (kn := ins.map (·.1)) (by rw [List.length_map]; omega) hs P.sok P.sfr s
    rw [List.map_map] at this
    exact this
  walk_at "rm"
  refine Rm.fldsk rfl ⟨rfl, by decide⟩ ?_
  walk_at "rm"
  refine ⟨by rw [List.length_map]; omega, ?_⟩
  refine Rm.eq (lcM inpD (fun p => D.tup p.2) fun p hp => ⟨_, rfl, rfl⟩) ?_
  walk_at "rm"
  refine ⟨by rw [List.length_map]; omega, ?_⟩
  refine Rm.eq (lcA Stp.d strchB (fun st => D.tup (strchS st)) fun st hst => ?_) ?_
  · refine ⟨_, rfl, Rm.det ?_, fun hk => Rm.det ?_⟩
    · walk_at "rm"
      refine Rm.lift (ix1 st) ?_
      walk_at "rm"
      refine ⟨?_, rfl⟩
      cases st with
      | comb k => cases k <;> rfl
      | _ => rfl
    · cases st with
      | strch n a sh => walk_at "rm"; exact ⟨rfl, rfl⟩
      | _ => cases hk
  walk_at "rm"
  · simp only [List.length_map]; omega
  walk_at "rm"
  refine ⟨by rw [List.length_map]; omega, ?_⟩
  refine Rm.eq (lcM chkD (fun c => D.tup c.2) fun c hc => ⟨_, rfl, Rm.det ?_⟩) ?_
  · unfold chkD
    walk_at "rm"
    exact ⟨rfl, rfl⟩
  walk_at "rm"
  · simp only [List.length_append, List.length_map]; omega
  have he : List.map (fun p : Str × List D => D.tup p.2) ins ++ List.map (fun st => D.tup (strchS st)) (List.filter strchB sts) ++ List.map (fun c : Str × List D => D.tup c.2) cs = (allShs ins sts cs).map D.tup := by
    unfold allShs
    simp only [List.map_append, List.map_map]
    rfl
  rw [he]
  have hj : (Txt.join "" (letsOf (allShs ins sts cs))).length ≤ 4 := by
    have := PySem.W.KT.join_ones (letsOf (allShs ins sts cs)) P.l1
    have := P.lt
    omega
  walk_at "rm"
  refine Rm.mtT ?_
  walk_at "rm"
  refine ⟨rfl, ?_⟩
  walk_at "rm"
  refine Rm.eq (letters_ok hz hsh s) ?_
  walk_at "rm"
  refine Rm.lift (a := .str (Txt.join "" (letsOf (allShs ins sts cs)))) ?_ ?_
  · show (strsD ((letsOf (allShs ins sts cs)).map D.str)).bind _ = _
    rw [strsD_map]
    show (if _ then _ else _) = _
    have hone := sum_ones P.l1
    have h0 : (Str.ofString "").length = 0 := by decide
    rw [if_pos (by rw [hone, h0]; have := P.lt; omega)]
  walk_at "rm"
  refine Rm.fldk rfl (by show (3 : Nat) < 1000; decide) ?_
  walk_at "rm"
  refine Rm.attrF rfl rfl ?_
  walk_at "rm"
  refine Rm.ifF (decide_eq_false (by omega)) ?_
  walk_at "rm"
  refine Rm.eq hbd ?_
  walk_at "rm"
  refine Rm.fldk rfl (by show (4 : Nat) < 1000; decide) ?_
  walk_at "rm"
  refine ⟨by rw [List.length_map]; omega, ?_⟩
  refine Rm.eq (lcM inpD (fun p => D.str p.1) fun p hp => ⟨_, rfl, rfl⟩) ?_
  walk_at "rm"
  refine ⟨by rw [List.length_map]; omega, ?_⟩
  refine Rm.eq (lcM Stp.d (fun st => D.str st.nm) fun st hst => ⟨_, rfl, Rm.det ?_⟩) ?_
  · walk_at "rm"
    exact Rm.lift (ix0 st) ⟨rfl, rfl⟩
  walk_at "rm"
  · simp only [List.length_map]; omega
  walk_at "rm"
  refine Rm.fldk rfl (by show (5 : Nat) < 1000; decide) ?_
  walk_at "rm"
  refine ⟨by rw [List.length_map]; omega, ?_⟩
  refine Rm.eq (lcM Stp.d (fun st => D.str st.kd) fun st hst => ⟨_, rfl, Rm.det ?_⟩) ?_
  · walk_at "rm"
    exact Rm.lift (ix1 st) ⟨rfl, rfl⟩
  walk_at "rm"
  refine Rm.ite (fun hk => ?_) (fun hk => ?_)
  · have hk := of_decide_eq_true hk
    rw [List.length_map] at hk
    have hcs : cs = [] := List.eq_nil_of_length_eq_zero (by omega)
    walk_at "rm"
    refine ⟨by rw [List.length_map]; omega, ?_⟩
    refine Rm.eq (lcM (fun st : Stp => D.str st.kd) (fun st => D.bl (unstB st)) fun st hst => ⟨_, rfl, Rm.det ?_⟩) ?_
    · walk_at "rm"
      refine ⟨?_, rfl⟩
      cases st with
      | comb k => cases k <;> rfl
      | _ => rfl
    walk_at "rm"
    refine Rm.lift (any_bls unstB sts) ?_
    walk_at "rm"
    refine Rm.fldk rfl (by show (6 : Nat) < 1000; decide) ?_
    refine Rm.initk rfl ⟨?_, rfl⟩
    have hst : steadyB sts cs = !(sts.any unstB) := by unfold steadyB; rw [hcs]; rfl
    unfold prF
    rw [hst]
    rfl
  · have hk' := of_decide_eq_false hk
    rw [List.length_map] at hk'
    refine Rm.pure ?_
    refine Rm.fldk rfl (by show (6 : Nat) < 1000; decide) ?_
    refine Rm.initk rfl ⟨?_, rfl⟩
    have hst : steadyB sts cs = false := by
      unfold steadyB
      cases cs with
      | nil => exact absurd rfl hk'
      | cons _ _ => rfl
    unfold prF
    rw [hst, ← hk]
    rfl
/-- the program of a model -/
theorem program_ok {ins : List (Str × List D)} {sts : List Stp} {cs : List (Str × List D)} (P : PrOk ins sts cs) (s : FS) : ∃ (lt : Str) (bd : Int), g_law_program [.tup [.lst (ins.map inpD), .lst (sts.map Stp.d), .lst (cs.map chkD)]] s = .ok (.ins "Program" (prF ins sts cs lt bd)) s := by
  obtain ⟨lt, bd, h⟩ := init_ok P s
  refine ⟨lt, bd, Rm.det ?_⟩
  unfold g_law_program
  refine Rm.run rfl ?_
  unfold b_law_program
  show Rm (gRet _ [.d (.tup [.lst (ins.map inpD), .lst (sts.map Stp.d), .lst (cs.map chkD)])]) s _
  walk_at "rm"
  refine ⟨⟨rfl, rfl⟩, ?_⟩
  refine Rm.makeD h ?_
  walk_at "rm"
  exact ⟨rfl, rfl⟩

end Q

set_option Elab.async false
set_option linter.all false
set_option maxRecDepth 100000
set_option maxHeartbeats 4000000
namespace Q
open PySem PySem.Spec PyProof.Rows L2 DL
def tell1 (st : Stp) (c : Int) : Option Int := match st with
  | .map .. => some c
  | .comb .. => some c
  | .red _ _ _ ax k => if -c ≤ ax ∧ ax < 0 then some (if k = true then c else c - 1) else none
  | .trans _ _ o => if (o.length : Int) ≤ c then some c else none
  | .prod .. => if 2 ≤ c then some c else none
  | .insr _ _ ax => if -c - 1 ≤ ax ∧ ax < 0 then some (c + 1) else none
  | .remv _ _ ax => if -c ≤ ax ∧ ax < 0 then some (c - 1) else none
  | .stck _ _ ax => if -c - 1 ≤ ax ∧ ax < 0 then some (c + 1) else none
  | _ => none
def tell (st : Stp) (c : Int) (r : List Int) : Option Int := if (c :: r).any (fun y => !decide (y = c)) = true then none else tell1 st c
def optI : Option Int → D
  | none => .non
  | some i => .int i
theorem anyNe (c : Int) (ns : List Int) (f : Env' → M D) (b : D → Option Asg) (ρ : Env') (s : FS) (h : ∀ y : Int, ∃ as, b (.int y) = some as ∧ f (setE as ρ) s = .ok (.bl (!decide (y = c))) s) : lcE b cYes f (ns.map D.int) ρ s = .ok (ns.map fun y => D.bl (!decide (y = c))) s := lcM D.int _ fun y _ => h y
theorem told_ok {st : Stp} (hu : unstB st = false) (c : Int) (r : List Int) (hr : r.length ≤ 1000) (s : FS) : g_told_behind [st.d, .lst ((c :: r).map .int)] s = .ok (optI (tell st c r)) s := by
  have hsz : sizeLine = 16777216 := rfl
  refine Rm.det ?_
  unfold g_told_behind
  refine Rm.run rfl ?_
  unfold b_told_behind
  show Rm (gSeq _ _ [.d st.d, .d (.lst (.int c :: r.map .int)), .no, .no, .no, .no, .no]) s _
  have hix : ixD (.lst (.int c :: r.map .int)) (.int 0) = some (.int c) := by
    have := atI_ok (xs := D.int c :: r.map D.int) (i := 0) (x := .int c) rfl
    exact this
  walk_at "rm"
  refine Rm.lift (ix1 st) ?_
  walk_at "rm"
  refine Rm.lift hix ?_
  walk_at "rm"
  refine ⟨by simp only [List.length_cons, List.length_map]; omega, ?_⟩
  refine Rm.eq (anyNe c (c :: r) _ _ _ s fun y => ⟨_, rfl, Rm.det ?_⟩) ?_
  · walk_at "rm"
    refine ⟨?_, rfl⟩
    congr 2
    simp
  walk_at "rm"
  refine Rm.lift (any_bls _ _) ?_
  walk_at "rm"
  cases hk : (c :: r).any (fun y => !decide (y = c)) with
  | true =>
    have ht : tell st c r = none := if_pos hk
    rw [ht]
    walk_at "rm"
    exact ⟨rfl, rfl⟩
  | false =>
    have ht : tell st c r = tell1 st c := if_neg (by rw [hk]; decide)
    rw [ht]
    clear ht hk hix
    have two : ∀ {p : Prop} [Decidable p] {x y : M (Fl × Sts)} {s : FS} {Q : Fl × Sts → FS → Prop}, (p → Rm x s Q) → (¬ p → Rm y s Q) → Rm (if decide p = true then x else y) s Q := fun h1 h2 => Rm.ite (fun hk => h1 (of_decide_eq_true hk)) (fun hk => h2 (of_decide_eq_false hk))
    cases st with
    | sqz n a => cases hu
    | sel n a ax i => cases hu
    | map n w a => dsimp only [Stp.kd, Stp.d]; walk_at "rm"; exact ⟨rfl, rfl⟩
    | comb k n w a b => cases k <;> (dsimp only [Stp.kd, Stp.d]; walk_at "rm"; exact ⟨rfl, rfl⟩)
    | strch n a sh => dsimp only [Stp.kd, Stp.d]; walk_at "rm"; exact ⟨rfl, rfl⟩
    | prod n a b =>
      dsimp only [Stp.kd, Stp.d, tell1]; walk_at "rm"
      refine Rm.ite (fun hk => ?_) (fun hk => ?_)
      · have hk := of_decide_eq_true hk
        walk_at "rm"
        exact ⟨by rw [if_pos hk]; rfl, rfl⟩
      · have hk := of_decide_eq_false hk
        walk_at "rm"
        exact ⟨by rw [if_neg hk]; rfl, rfl⟩
    | trans n a o =>
      dsimp only [Stp.kd, Stp.d, tell1]; walk_at "rm"
      refine Rm.ite (fun hk => ?_) (fun hk => ?_)
      · have hk := of_decide_eq_true hk
        rw [List.length_map] at hk
        walk_at "rm"
        exact ⟨by rw [if_pos hk]; rfl, rfl⟩
      · have hk := of_decide_eq_false hk
        rw [List.length_map] at hk
        walk_at "rm"
        exact ⟨by rw [if_neg hk]; rfl, rfl⟩
    | red n w a ax k =>
      dsimp only [Stp.kd, Stp.d, tell1]; walk_at "rm"
      refine Rm.chainC (fun h1 => ?_) (fun h1 => ?_)
      · have h1 := of_decide_eq_true h1
        walk_at "rm"
        refine Rm.ite (fun h2 => ?_) (fun h2 => ?_)
        · have h2 : ¬ ax < 0 := by simpa using h2
          walk_at "rm"
          exact ⟨by rw [if_neg (by omega)]; rfl, rfl⟩
        · have h2 : ax < 0 := by simpa using h2
          rw [if_pos (by omega)]
          walk_at "rm"
          cases k with
          | true => walk_at "rm"; exact ⟨rfl, rfl⟩
          | false => walk_at "rm"; exact ⟨rfl, rfl⟩
      · have h1 := of_decide_eq_false h1
        walk_at "rm"
        exact ⟨by rw [if_neg (by omega)]; rfl, rfl⟩
    | insr n a ax =>
      dsimp only [Stp.kd, Stp.d, tell1]; walk_at "rm"
      refine Rm.chainC (fun h1 => ?_) (fun h1 => ?_)
      · have h1 := of_decide_eq_true h1
        walk_at "rm"
        refine Rm.ite (fun h2 => ?_) (fun h2 => ?_)
        · have h2 : ¬ ax < 0 := by simpa using h2
          walk_at "rm"
          exact ⟨by rw [if_neg (by omega)]; rfl, rfl⟩
        · have h2 : ax < 0 := by simpa using h2
          rw [if_pos (by omega)]
          walk_at "rm"
          exact ⟨rfl, rfl⟩
      · have h1 := of_decide_eq_false h1
        walk_at "rm"
        exact ⟨by rw [if_neg (by omega)]; rfl, rfl⟩
    | remv n a ax =>
      dsimp only [Stp.kd, Stp.d, tell1]; walk_at "rm"
      refine Rm.chainC (fun h1 => ?_) (fun h1 => ?_)
      · have h1 := of_decide_eq_true h1
        walk_at "rm"
        refine Rm.ite (fun h2 => ?_) (fun h2 => ?_)
        · have h2 : ¬ ax < 0 := by simpa using h2
          walk_at "rm"
          exact ⟨by rw [if_neg (by omega)]; rfl, rfl⟩
        · have h2 : ax < 0 := by simpa using h2
          rw [if_pos (by omega)]
          walk_at "rm"
          exact ⟨rfl, rfl⟩
      · have h1 := of_decide_eq_false h1
        walk_at "rm"
        exact ⟨by rw [if_neg (by omega)]; rfl, rfl⟩
    | stck n as ax =>
      dsimp only [Stp.kd, Stp.d, tell1]; walk_at "rm"
      refine Rm.chainC (fun h1 => ?_) (fun h1 => ?_)
      · have h1 := of_decide_eq_true h1
        walk_at "rm"
        refine Rm.ite (fun h2 => ?_) (fun h2 => ?_)
        · have h2 : ¬ ax < 0 := by simpa using h2
          walk_at "rm"
          exact ⟨by rw [if_neg (by omega)]; rfl, rfl⟩
        · have h2 : ax < 0 := by simpa using h2
          rw [if_pos (by omega)]
          walk_at "rm"
          exact ⟨rfl, rfl⟩
      · have h1 := of_decide_eq_false h1
        walk_at "rm"
        exact ⟨by rw [if_neg (by omega)]; rfl, rfl⟩

end Q

set_option Elab.async false
set_option linter.all false
set_option maxRecDepth 100000
set_option maxHeartbeats 4000000
namespace Q
open PySem PySem.Spec PyProof.Rows L2 DL
def dcD (cs : List (Str × Int)) : List (Key × D) := cs.map fun p => (.inr p.1, .int p.2)
def lookS (cs : List (Str × Int)) (k : Str) : Option Int := (cs.find? fun p => decide (p.1 = k)).map (·.2)
def putS (cs : List (Str × Int)) (k : Str) (v : Int) : List (Str × Int) := if (cs.any fun p => decide (p.1 = k)) = true then cs.map (fun p => if p.1 = k then (p.1, v) else p) else cs ++ [(k, v)]
theorem inr_dec (a b : Str) : decide ((Sum.inr a : Key) = Sum.inr b) = decide (a = b) := by
  by_cases h : a = b
  · subst h; simp
  · simp [h]
theorem lookD_dc : ∀ (cs : List (Str × Int)) (k : Str), lookD (dcD cs) (.inr k) = (lookS cs k).map D.int
  | [], _ => rfl
  | (a, v) :: r, k => by
    have ih := lookD_dc r k
    unfold lookD lookS at ih ⊢
    unfold dcD at ih ⊢
    rw [List.map_cons, List.find?_cons, List.find?_cons]
    rw [show decide ((((Sum.inr (a, v).1 : Key), D.int (a, v).2)).1 = Sum.inr k) = decide (a = k) from inr_dec a k]
    by_cases h : a = k
    · rw [decide_eq_true h]; rfl
    · rw [decide_eq_false h]; exact ih
theorem any_dc (cs : List (Str × Int)) (k : Str) : ((dcD cs).any fun kv => decide (kv.1 = Sum.inr k)) = cs.any fun p => decide (p.1 = k) := by
  unfold dcD
  rw [List.any_map]
  congr 1
  funext p
  exact inr_dec p.1 k
theorem putD_dc (cs : List (Str × Int)) (k : Str) (v : Int) : putD (dcD cs) (.inr k) (.int v) = dcD (putS cs k v) := by
  unfold putD putS
  rw [any_dc]
  by_cases h : (cs.any fun p => decide (p.1 = k)) = true
  · rw [if_pos h, if_pos h]
    unfold dcD
    rw [List.map_map, List.map_map]
    refine List.map_congr_left fun p _ => ?_
    show (if (Sum.inr p.1 : Key) = Sum.inr k then ((Sum.inr p.1 : Key), D.int v) else (Sum.inr p.1, .int p.2)) = (fun q : Str × Int => ((Sum.inr q.1 : Key), D.int q.2)) (if p.1 = k then (p.1, v) else p)
    by_cases h : p.1 = k
    · rw [if_pos h, if_pos (by rw [h])]
    · rw [if_neg h, if_neg (fun e => h (Sum.inr.inj e))]
  · rw [if_neg h, if_neg h]
    unfold dcD
    rw [List.map_append]
    rfl
theorem putS_len (cs : List (Str × Int)) (k : Str) (v : Int) : (putS cs k v).length ≤ cs.length + 1 := by
  unfold putS
  split <;> simp
theorem lookS_putS_same (cs : List (Str × Int)) (k : Str) (v : Int) : lookS (putS cs k v) k = some v := by
  unfold putS lookS
  by_cases h : (cs.any fun p => decide (p.1 = k)) = true
  · rw [if_pos h]
    induction cs with
    | nil => simp at h
    | cons p r ih =>
      rw [List.map_cons, List.find?_cons]
      by_cases e : p.1 = k
      · rw [if_pos e, decide_eq_true (show (p.1, v).1 = k from e)]; rfl
      · rw [if_neg e, decide_eq_false e]
        refine ih ?_
        rw [List.any_cons, decide_eq_false e] at h
        simpa using h
  · rw [if_neg h, List.find?_append]
    have : cs.find? (fun p => decide (p.1 = k)) = none := by
      rw [List.find?_eq_none]
      intro p hp hk
      exact h (List.any_eq_true.mpr ⟨p, hp, hk⟩)
    rw [this]
    simp
theorem lookS_putS_ne {cs : List (Str × Int)} {k x : Str} {v : Int} (hx : x ≠ k) : lookS (putS cs k v) x = lookS cs x := by
  unfold putS lookS
  by_cases h : (cs.any fun p => decide (p.1 = k)) = true
  · rw [if_pos h]
    clear h
    induction cs with
    | nil => rfl
    | cons p r ih =>
      rw [List.map_cons, List.find?_cons, List.find?_cons]
      by_cases e : p.1 = k
      · rw [if_pos e, decide_eq_false (show ¬ (p.1, v).1 = x from fun z => hx (z.symm.trans e))]
        exact ih
      · rw [if_neg e]
        by_cases e2 : p.1 = x
        · rw [decide_eq_true e2]
        · rw [decide_eq_false e2]; exact ih
  · rw [if_neg h, List.find?_append]
    cases q : cs.find? (fun p => decide (p.1 = x)) with
    | some p => rfl
    | none =>
      rw [List.find?_cons, decide_eq_false (show ¬ (k, v).1 = x from fun e => hx e.symm)]
      rfl
theorem lookS_known {cs : List (Str × Int)} {k x : Str} {v : Int} (h : (lookS cs x).isSome = true) : (lookS (putS cs k v) x).isSome = true := by
  by_cases e : x = k
  · subst e; rw [lookS_putS_same]; rfl
  · rw [lookS_putS_ne e]; exact h
def tellL (st : Stp) (ns : List Int) : Option Int := match ns with
  | [] => none
  | c :: r => tell st c r
def rowsOf (cs : List (Str × Int)) (st : Stp) : List Int := st.ops.map fun x => (lookS cs x).getD 0
def cntG : List Stp → List (Str × Int) → Option (List (Str × Int))
  | [], cs => some cs
  | st :: r, cs => match tellL st (rowsOf cs st) with
    | none => none
    | some v => cntG r (putS cs st.nm v)
def cs0 (ins : List (Str × List D)) : List (Str × Int) := ins.foldl (fun cs p => putS cs p.1 p.2.length) []
def Kn (kn : List Str) (cs : List (Str × Int)) : Prop := ∀ x, x ∈ kn → (lookS cs x).isSome = true
theorem Kn.put {kn : List Str} {cs : List (Str × Int)} (h : Kn kn cs) (k : Str) (v : Int) : Kn (kn ++ [k]) (putS cs k v) := fun x hx => by
  rcases List.mem_append.mp hx with hx | hx
  · exact lookS_known (h x hx)
  · rw [List.mem_singleton] at hx
    subst hx
    rw [lookS_putS_same]; rfl
theorem kn0_go : ∀ (ins : List (Str × List D)) (kn : List Str) (cs : List (Str × Int)), Kn kn cs → Kn (kn ++ ins.map (·.1)) (ins.foldl (fun cs p => putS cs p.1 p.2.length) cs)
  | [], kn, cs, h => by rw [List.map_nil, List.append_nil]; exact h
  | p :: r, kn, cs, h => by
    have := kn0_go r (kn ++ [p.1]) _ (h.put p.1 p.2.length)
    rw [List.append_assoc] at this
    exact this
theorem kn0 (ins : List (Str × List D)) : Kn (ins.map (·.1)) (cs0 ins) := by
  have := kn0_go ins [] [] fun x hx => by simp at hx
  rw [List.nil_append] at this
  exact this
theorem len0_go : ∀ (ins : List (Str × List D)) (cs : List (Str × Int)), (ins.foldl (fun cs p => putS cs p.1 p.2.length) cs).length ≤ cs.length + ins.length
  | [], cs => Nat.le_refl _
  | p :: r, cs => by
    have := len0_go r (putS cs p.1 p.2.length)
    have := putS_len cs p.1 p.2.length
    rw [List.length_cons, List.foldl_cons]
    omega
/-- a dict comprehension over items of one make -/
theorem dcA {α : Type} {l : List α} {ρ : Env'} {s : FS} {b : D → Option Asg} {kf vf : Env' → M D} (h : α → D) (gk : α → Key) (gv : α → D) : ∀ {acc : List (Key × D)}, acc.length + l.length ≤ sizeLine → (∀ a, a ∈ l → ∃ as, b (h a) = some as ∧ kf (setE as ρ) s = .ok (keyV (gk a)) s ∧ vf (setE as ρ) s = .ok (gv a) s) → dcE b cYes kf vf (l.map h) ρ acc s = .ok (l.foldl (fun acc a => putD acc (gk a) (gv a)) acc) s := by
  induction l with
  | nil => intro acc _ _; rfl
  | cons x r ih =>
    intro acc hl H
    obtain ⟨as, e, h1, h2⟩ := H x List.mem_cons_self
    rw [List.length_cons] at hl
    have ih := ih (acc := putD acc (gk x) (gv x)) (by have := putD_le acc (gk x) (gv x); omega) fun x hx => H x (List.mem_cons_of_mem _ hx)
    refine Rm.det ?_
    show Rm (M.bind (M.lift (b (h x))) _) s _
    rw [e]
    refine Rm.bind (Rm.lift rfl (Rm.bind (Rm.cyes ?_)))
    rw [if_pos rfl]
    refine Rm.bind (Rm.eq h1 (Rm.bind (Rm.eq h2 (Rm.bind (Rm.lift (a := gk x) ?_ ?_)))))
    · cases gk x <;> rfl
    · rw [if_pos (by omega)]
      exact Rm.eq ih ⟨rfl, rfl⟩
theorem fold_dc : ∀ (ins : List (Str × List D)) (cs : List (Str × Int)), ins.foldl (fun acc p => putD acc (.inr p.1) (.int p.2.length)) (dcD cs) = dcD (ins.foldl (fun cs p => putS cs p.1 p.2.length) cs)
  | [], cs => rfl
  | p :: r, cs => by
    rw [List.foldl_cons, List.foldl_cons, putD_dc]
    exact fold_dc r _
theorem ops_ne {st : Stp} (h : st.Ok) : st.ops ≠ [] := by
  have hd := h.det
  cases st with
  | stck n as ax => intro e; have : as = [] := e; subst this; exact absurd hd.1 (by decide)
  | _ => simp [Stp.ops]
theorem known_get {cs : List (Str × Int)} {x : Str} (h : (lookS cs x).isSome = true) : ixD (.dic (dcD cs)) (.str x) = some (.int ((lookS cs x).getD 0)) := by
  have e : ixD (.dic (dcD cs)) (.str x) = lookD (dcD cs) (.inr x) := rfl
  rw [e, lookD_dc]
  cases q : lookS cs x with
  | none => rw [q] at h; cases h
  | some v => rfl

end Q

set_option Elab.async false
set_option linter.all false
set_option maxRecDepth 100000
set_option maxHeartbeats 4000000
namespace Q
open PySem PySem.Spec PyProof.Rows L2 DL
theorem steady_ok {fs : List (Str × D)} {b : Bool} (h : fs.lookup ("own_steady" : Str) = some (.bl b)) (s : FS) : g_Program_is_steady [.ins "Program" fs] s = .ok (.bl b) s := by
  refine Rm.det ?_
  unfold g_Program_is_steady
  refine Rm.run rfl ?_
  unfold b_Program_is_steady
  show Rm (gRet _ [.d (.ins "Program" fs)]) s _
  walk_at "rm"
  refine Rm.attrF rfl h ?_
  walk_at "rm"
  exact ⟨rfl, rfl⟩
theorem inputs_ok {fs : List (Str × D)} {xs : List D} (h : fs.lookup ("own_inputs" : Str) = some (.tup xs)) (s : FS) : g_Program_inputs [.ins "Program" fs] s = .ok (.lst xs) s := by
  refine Rm.det ?_
  unfold g_Program_inputs
  refine Rm.run rfl ?_
  unfold b_Program_inputs
  show Rm (gRet _ [.d (.ins "Program" fs)]) s _
  walk_at "rm"
  refine Rm.attrF rfl h ?_
  walk_at "rm"
  exact ⟨rfl, rfl⟩
theorem steps_ok {fs : List (Str × D)} {xs : List D} (h : fs.lookup ("own_steps" : Str) = some (.tup xs)) (s : FS) : g_Program_steps [.ins "Program" fs] s = .ok (.lst xs) s := by
  refine Rm.det ?_
  unfold g_Program_steps
  refine Rm.run rfl ?_
  unfold b_Program_steps
  show Rm (gRet _ [.d (.ins "Program" fs)]) s _
  walk_at "rm"
  refine Rm.attrF rfl h ?_
  walk_at "rm"
  exact ⟨rfl, rfl⟩
theorem rows_ne {cs : List (Str × Int)} {st : Stp} (h : st.Ok) : ∃ c r, rowsOf cs st = c :: r ∧ r.length ≤ 1000 := by
  have h1 := ops_ne h
  have h2 := ops_le h
  have hl : (rowsOf cs st).length = st.ops.length := by unfold rowsOf; rw [List.length_map]
  cases q : rowsOf cs st with
  | nil => rw [q] at hl; exact absurd (List.eq_nil_of_length_eq_zero hl.symm) h1
  | cons c r => rw [q, List.length_cons] at hl; exact ⟨c, r, rfl, by omega⟩
theorem tups_optI (o : Option Int) : tupsB (optI o) = true := by
  cases o with
  | none => unfold optI tupsB; rfl
  | some v => unfold optI tupsB; rfl
theorem takes_ok {ins : List (Str × List D)} {sts : List Stp} {cs : List (Str × List D)} (P : PrOk ins sts cs) (lt : Str) (bd : Int) (s : FS) : g_takes_fronts [.ins "Program" (prF ins sts cs lt bd)] s = .ok (.bl (steadyB sts cs && (cntG sts (cs0 ins)).isSome)) s := by
  have hsz : sizeLine = 16777216 := rfl
  have hi := P.i4
  have hs := P.sl
  refine Rm.det ?_
  unfold g_takes_fronts
  refine Rm.run rfl ?_
  unfold b_takes_fronts
  show Rm (gSeq _ _ [.d (.ins "Program" (prF ins sts cs lt bd)), .no, .no, .no, .no, .no]) s _
  walk_at "rm"
  refine Rm.attrP rfl ?_
  refine Rm.eq (steady_ok (b := steadyB sts cs) rfl s) ?_
  walk_at "rm"
  cases hst : steadyB sts cs with
  | false =>
    walk_at "rm"
    exact ⟨rfl, rfl⟩
  | true =>
    have hun : ∀ st, st ∈ sts → unstB st = false := fun st h => by
      unfold steadyB at hst
      rw [Bool.and_eq_true, Bool.not_eq_true'] at hst
      exact Bool.eq_false_iff.mpr fun e => by
        have := List.any_eq_true.mpr ⟨st, h, e⟩
        rw [hst.2] at this
        cases this
    walk_at "rm"
    refine Rm.dc (ys := ins.foldl (fun acc (p : Str × List D) => putD acc (.inr p.1) (.int p.2.length)) []) ?_
    walk_at "rm"
    refine Rm.eq (inputs_ok (xs := ins.map inpD) rfl s) ?_
    walk_at "rm"
    refine ⟨dcA inpD (fun p => .inr p.1) (fun p => .int p.2.length) (by show 0 + ins.length ≤ _; omega) fun p hp => ⟨_, rfl, rfl, Rm.det ?_⟩, ?_⟩
    · walk_at "rm"
      exact ⟨rfl, rfl⟩
    rw [show (List.foldl (fun acc (p : Str × List D) => putD acc (.inr p.1) (.int p.2.length)) [] ins) = dcD (cs0 ins) from fold_dc ins []]
    walk_at "rm"
    refine Rm.eq (steps_ok (xs := sts.map Stp.d) rfl s) ?_
    walk_at "rm"
    refine Rm.loop (fun xs ρ s' => ∃ (c' : List (Str × Int)) (kn : List Str) (rest : List Stp) (e2 e3 : EV), xs = rest.map Stp.d ∧ (∀ st, st ∈ rest → st.Ok ∧ unstB st = false) ∧ Fresh kn rest ∧ Kn kn c' ∧ c'.length + rest.length ≤ 1000 ∧ cntG sts (cs0 ins) = cntG rest c' ∧ ρ = [.d (.ins "Program" (prF ins sts cs lt bd)), .od (dcD c'), e2, e3, .no, .no] ∧ s' = s) ⟨cs0 ins, _, sts, .no, .no, rfl, fun st h => ⟨P.sok st h, hun st h⟩, P.sfr, kn0 ins, by have := len0_go ins []; unfold cs0; simp at this; omega, rfl, rfl, rfl⟩ ?_ ?_
    · rintro x r ρ s' ⟨c', kn, rest, e2, e3, hx, ho, hf, hk, hl, hc, rfl, rfl⟩
      cases rest with
      | nil => cases hx
      | cons st rest =>
        rw [List.map_cons] at hx
        injection hx with hx1 hx2
        subst hx1
        subst hx2
        obtain ⟨so, su⟩ := ho st List.mem_cons_self
        obtain ⟨hf1, hf2, hf3⟩ := hf
        rw [List.length_cons] at hl
        obtain ⟨c, r, hr, hrl⟩ := rows_ne (cs := c') so
        have h3 := ops_le so
        refine ⟨_, rfl, ?_⟩
        show Rm (gSeq _ _ [.d (.ins "Program" (prF ins sts cs lt bd)), .od (dcD c'), .d st.d, e3, .no, .no]) _ _
        walk_at "rm"
        refine Rm.eq (operands_ok st _) ?_
        walk_at "rm"
        refine ⟨by rw [List.length_map]; omega, ?_⟩
        refine Rm.eq (lcM D.str (fun x => D.int ((lookS c' x).getD 0)) fun y hy => ⟨_, rfl, Rm.det ?_⟩) ?_
        · walk_at "rm"
          exact Rm.lift (known_get (hk y (hf2 y hy))) ⟨rfl, rfl⟩
        rw [show List.map (fun x => D.int ((lookS c' x).getD 0)) st.ops = (c :: r).map D.int by rw [← hr]; unfold rowsOf; rw [List.map_map]; rfl]
        walk_at "rm"
        refine Rm.eq (told_ok su c r hrl _) ?_
        refine ⟨tups_optI _, ?_⟩
        have hct : cntG (st :: rest) c' = match tell st c r with
          | none => none
          | some v => cntG rest (putS c' st.nm v) := by
          show (match tellL st (rowsOf c' st) with
            | none => none
            | some v => cntG rest (putS c' st.nm v)) = _
          rw [hr]
          rfl
        rw [hct] at hc
        cases ht : tell st c r with
        | none =>
          rw [ht] at hc
          dsimp only [optI]
          walk_at "rm"
          exact ⟨by rw [hc]; rfl, rfl⟩
        | some v =>
          rw [ht] at hc
          dsimp only [optI]
          walk_at "rm"
          refine Rm.ifF rfl ?_
          walk_at "rm"
          refine Rm.stdk rfl ?_
          walk_at "rm"
          refine Rm.lift (ix0 st) ?_
          walk_at "rm"
          refine Rm.stdk2 rfl (by unfold dcD; rw [List.length_map]; omega) ?_
          refine Rm.lift (a := .inr st.nm) rfl ?_
          rw [putD_dc]
          have := putS_len c' st.nm v
          exact ⟨putS c' st.nm v, _, rest, .d st.d, .d (.int v), rfl, fun z hz => ho z (List.mem_cons_of_mem _ hz), hf3, hk.put st.nm v, by omega, hc, rfl, rfl⟩
    · rintro ρ s' ⟨c', kn, rest, e2, e3, hx, ho, hf, hk, hl, hc, rfl, rfl⟩
      cases rest with
      | cons st rest => cases hx
      | nil =>
        rw [hc]
        walk_at "rm"
        exact ⟨rfl, rfl⟩

end Q

set_option Elab.async false
set_option linter.all false
set_option maxRecDepth 100000
set_option maxHeartbeats 4000000
namespace Q
open PySem PySem.Spec PyProof.Rows L2 DL
def cres (cs : List (Str × List D)) (o : Option (List (Str × Int))) : D := match o with
  | none => .non
  | some c => if cs.isEmpty = true then .dic (dcD c) else .non
theorem tell_no {st : Stp} {c : Int} {r : List Int} (h : (c :: r).any (fun y => !decide (y = c)) = true) : tell st c r = none := if_pos h
theorem tell_yes {st : Stp} {c : Int} {r : List Int} (h : (c :: r).any (fun y => !decide (y = c)) = false) : tell st c r = tell1 st c := if_neg (by rw [h]; decide)
theorem cnt_cons {st : Stp} {rest : List Stp} {c' : List (Str × Int)} {c : Int} {r : List Int} (hr : rowsOf c' st = c :: r) : cntG (st :: rest) c' = match tell st c r with
    | none => none
    | some v => cntG rest (putS c' st.nm v) := by
  show (match tellL st (rowsOf c' st) with
    | none => none
    | some v => cntG rest (putS c' st.nm v)) = _
  rw [hr]
  rfl
/-- what the loop over the steps keeps -/
def CI (ins : List (Str × List D)) (sts : List Stp) (cs : List (Str × List D)) (s : FS) (xs : List D) (ρ : Sts) (s' : FS) : Prop := ∃ (c' : List (Str × Int)) (kn : List Str) (rest : List Stp) (e2 e3 e4 e5 e6 e7 e8 e9 e10 : EV), xs = rest.map Stp.d ∧ (∀ st, st ∈ rest → st.Ok) ∧ Fresh kn rest ∧ Kn kn c' ∧ c'.length + rest.length ≤ 1000 ∧ cntG sts (cs0 ins) = cntG rest c' ∧ ρ = [.d (.tup [.lst (ins.map inpD), .lst (sts.map Stp.d), .lst (cs.map chkD)]), .od (dcD c'), e2, e3, e4, e5, e6, e7, e8, e9, e10, .no] ∧ s' = s
theorem CI.put {ins : List (Str × List D)} {sts : List Stp} {cs : List (Str × List D)} {s : FS} {c' : List (Str × Int)} {kn : List Str} {rest : List Stp} {st : Stp} {v : Int} {ρ : Sts} (e2 e3 e4 e5 e6 e7 e8 e9 e10 : EV) (ho : ∀ z, z ∈ rest → z.Ok) (hf : Fresh (kn ++ [st.nm]) rest) (hk : Kn kn c') (hl : c'.length + (rest.length + 1) ≤ 1000) (hc : cntG sts (cs0 ins) = cntG rest (putS c' st.nm v))
    (hρ : ρ = [.d (.tup [.lst (ins.map inpD), .lst (sts.map Stp.d), .lst (cs.map chkD)]), .od (dcD (putS c' st.nm v)), e2, e3, e4, e5, e6, e7, e8, e9, e10, .no]) : CI ins sts cs s (rest.map Stp.d) ρ s :=
  ⟨putS c' st.nm v, kn ++ [st.nm], rest, e2, e3, e4, e5, e6, e7, e8, e9, e10, rfl, ho, hf, hk.put st.nm v, by have := putS_len c' st.nm v; omega, hc, hρ, rfl⟩
section
variable {ins : List (Str × List D)} {sts : List Stp} {cs : List (Str × List D)} {s : FS} {c' : List (Str × Int)} {kn : List Str} {rest : List Stp} {e2 e3 e4 e5 e6 e7 e8 e9 e10 : EV} {R : Sts → FS → Prop}
def cntB : Sts → M (Fl × Sts) := (gSeq (gPar 5 6 (vMask (dOp ixD (dVar 4) (dC (.int 1)))) (vViewL (dLc (iAny (dCall g_law_operands (lCons (dVar 4) lNil))) (bName 2) cYes (dOp ixD (dVar 1) (dVar 2)))))
    (gSeq (gAsgT (bTup (bCons (bName 7) (bCons (bName 8) bNil))) (vMask (dFn mkTup (lCons (dOp ixD (dVar 6) (dC (.int 0))) (lCons (dFn intFB (lCons (dOp inD (dOp ixD (dVar 4) (dC (.int 1))) (dFn mkTup (lCons (dC (.str "insert")) (lCons (dC (.str "stack")) lNil)))) lNil)) lNil)))))
    (gSeq (gIf (cOr (cCmp inD (dVar 5) (dFn mkTup (lCons (dC (.str "squeeze")) (lCons (dC (.str "select")) (lCons (dC (.str "stretch")) lNil))))) (cTru (dFn anyD (lCons (dNew (dLc (iAny (dVar 6)) (bName 11) cYes (dOp neD (dVar 11) (dVar 7)))) lNil)))) (gRet (dC .non)) gNext)
    (gSeq (gIf (cOr (cAnd (cCmp eqD (dVar 5) (dC (.str "product"))) (cCmp ltD (dVar 7) (dC (.int 2)))) (cAnd (cCmp eqD (dVar 5) (dC (.str "transpose"))) (cCmp gtD (dFn lenD (lCons (dOp ixD (dVar 4) (dC (.int 3))) lNil)) (dVar 7)))) (gRet (dC .non)) gNext)
    (gSeq (gIf (cCmp inD (dVar 5) (dFn mkTup (lCons (dC (.str "reduce")) (lCons (dC (.str "insert")) (lCons (dC (.str "remove")) (lCons (dC (.str "stack")) lNil)))))) (gSeq (gSet 9 (vMask (dIf (cCmp eqD (dVar 5) (dC (.str "reduce"))) (dOp ixD (dVar 4) (dC (.int 4))) (dOp ixD (dVar 4) (dC (.int 3))))))
    (gIf (cOr (cCmp geD (dVar 9) (dC (.int 0))) (cCmp ltD (dVar 9) (dOp subD (dOp subD (dC (.int 0)) (dVar 7)) (dVar 8)))) (gRet (dC .non)) gNext)) gNext)
    (gSeq (gSet 10 (vMask (dFn intFB (lCons (dOr (dOp eqD (dVar 5) (dC (.str "remove"))) (dAnd (dOp eqD (dVar 5) (dC (.str "reduce"))) (dNot (dOp ixD (dVar 4) (dC (.int 5)))))) lNil))))
    (gStD 1 (vMask (dOp subD (dOp addD (dVar 7) (dVar 8)) (dVar 10))) (vMask (dOp ixD (dVar 4) (dC (.int 0)))))))))))
theorem cnt_sqz {n a : Str} (ho : ∀ z, z ∈ (Stp.sqz n a) :: rest → z.Ok) (hf : Fresh kn ((Stp.sqz n a) :: rest)) (hk : Kn kn c') (hl : c'.length + (rest.length + 1) ≤ 1000) (hc : cntG sts (cs0 ins) = cntG ((Stp.sqz n a) :: rest) c') (hno : cntG sts (cs0 ins) = none → ∀ ρ, R ρ s) :
    Rm (cntB [.d (.tup [.lst (ins.map inpD), .lst (sts.map Stp.d), .lst (cs.map chkD)]), .od (dcD c'), e2, e3, .d (Stp.sqz n a).d, e5, e6, e7, e8, e9, e10, .no]) s fun p s' => match p.1 with
      | .nx => CI ins sts cs s (rest.map Stp.d) p.2 s'
      | .rt d => d = .non ∧ R p.2 s'
      | _ => False := by
  have hsz : sizeLine = 16777216 := rfl
  have so := ho _ List.mem_cons_self
  have ho' : ∀ z, z ∈ rest → z.Ok := fun z hz => ho z (List.mem_cons_of_mem _ hz)
  obtain ⟨hf1, hf2, hf3⟩ := hf
  obtain ⟨c, r, hr, hrl⟩ := rows_ne (cs := c') so
  have h3 := ops_le so
  have hix : ixD (.lst ((c :: r).map D.int)) (.int 0) = some (.int c) := atI_ok (xs := D.int c :: r.map D.int) (i := 0) (x := .int c) rfl
  rw [cnt_cons hr] at hc
  unfold cntB
  walk_at "rm"
  refine Rm.eq (lops_ok (Stp.sqz n a) _) ?_
  walk_at "rm"
  refine ⟨by rw [List.length_map]; omega, ?_⟩
  refine Rm.eq (lcM D.str (fun x => D.int ((lookS c' x).getD 0)) fun y hy => ⟨_, rfl, Rm.det ?_⟩) ?_
  · walk_at "rm"
    exact Rm.lift (known_get (hk y (hf2 y hy))) ⟨rfl, rfl⟩
  rw [show List.map (fun x => D.int ((lookS c' x).getD 0)) (Stp.sqz n a).ops = (c :: r).map D.int by rw [← hr]; unfold rowsOf; rw [List.map_map]; rfl]
  refine ⟨tupsL_ints _, ?_⟩
  walk_at "rm"
  refine Rm.lift hix ?_
  walk_at "rm"
  have ht : tell (Stp.sqz n a) c r = none := by
    cases q : (c :: r).any (fun y => !decide (y = c)) with
    | true => exact tell_no q
    | false => exact tell_yes q
  rw [ht] at hc
  exact ⟨rfl, hno hc _⟩
theorem cnt_sel {n a : Str} {ax i : Int} (ho : ∀ z, z ∈ (Stp.sel n a ax i) :: rest → z.Ok) (hf : Fresh kn ((Stp.sel n a ax i) :: rest)) (hk : Kn kn c') (hl : c'.length + (rest.length + 1) ≤ 1000) (hc : cntG sts (cs0 ins) = cntG ((Stp.sel n a ax i) :: rest) c') (hno : cntG sts (cs0 ins) = none → ∀ ρ, R ρ s) :
    Rm (cntB [.d (.tup [.lst (ins.map inpD), .lst (sts.map Stp.d), .lst (cs.map chkD)]), .od (dcD c'), e2, e3, .d (Stp.sel n a ax i).d, e5, e6, e7, e8, e9, e10, .no]) s fun p s' => match p.1 with
      | .nx => CI ins sts cs s (rest.map Stp.d) p.2 s'
      | .rt d => d = .non ∧ R p.2 s'
      | _ => False := by
  have hsz : sizeLine = 16777216 := rfl
  have so := ho _ List.mem_cons_self
  have ho' : ∀ z, z ∈ rest → z.Ok := fun z hz => ho z (List.mem_cons_of_mem _ hz)
  obtain ⟨hf1, hf2, hf3⟩ := hf
  obtain ⟨c, r, hr, hrl⟩ := rows_ne (cs := c') so
  have h3 := ops_le so
  have hix : ixD (.lst ((c :: r).map D.int)) (.int 0) = some (.int c) := atI_ok (xs := D.int c :: r.map D.int) (i := 0) (x := .int c) rfl
  rw [cnt_cons hr] at hc
  unfold cntB
  walk_at "rm"
  refine Rm.eq (lops_ok (Stp.sel n a ax i) _) ?_
  walk_at "rm"
  refine ⟨by rw [List.length_map]; omega, ?_⟩
  refine Rm.eq (lcM D.str (fun x => D.int ((lookS c' x).getD 0)) fun y hy => ⟨_, rfl, Rm.det ?_⟩) ?_
  · walk_at "rm"
    exact Rm.lift (known_get (hk y (hf2 y hy))) ⟨rfl, rfl⟩
  rw [show List.map (fun x => D.int ((lookS c' x).getD 0)) (Stp.sel n a ax i).ops = (c :: r).map D.int by rw [← hr]; unfold rowsOf; rw [List.map_map]; rfl]
  refine ⟨tupsL_ints _, ?_⟩
  walk_at "rm"
  refine Rm.lift hix ?_
  walk_at "rm"
  have ht : tell (Stp.sel n a ax i) c r = none := by
    cases q : (c :: r).any (fun y => !decide (y = c)) with
    | true => exact tell_no q
    | false => exact tell_yes q
  rw [ht] at hc
  exact ⟨rfl, hno hc _⟩
theorem cnt_strch {n a : Str} {sh : List D} (ho : ∀ z, z ∈ (Stp.strch n a sh) :: rest → z.Ok) (hf : Fresh kn ((Stp.strch n a sh) :: rest)) (hk : Kn kn c') (hl : c'.length + (rest.length + 1) ≤ 1000) (hc : cntG sts (cs0 ins) = cntG ((Stp.strch n a sh) :: rest) c') (hno : cntG sts (cs0 ins) = none → ∀ ρ, R ρ s) :
    Rm (cntB [.d (.tup [.lst (ins.map inpD), .lst (sts.map Stp.d), .lst (cs.map chkD)]), .od (dcD c'), e2, e3, .d (Stp.strch n a sh).d, e5, e6, e7, e8, e9, e10, .no]) s fun p s' => match p.1 with
      | .nx => CI ins sts cs s (rest.map Stp.d) p.2 s'
      | .rt d => d = .non ∧ R p.2 s'
      | _ => False := by
  have hsz : sizeLine = 16777216 := rfl
  have so := ho _ List.mem_cons_self
  have ho' : ∀ z, z ∈ rest → z.Ok := fun z hz => ho z (List.mem_cons_of_mem _ hz)
  obtain ⟨hf1, hf2, hf3⟩ := hf
  obtain ⟨c, r, hr, hrl⟩ := rows_ne (cs := c') so
  have h3 := ops_le so
  have hix : ixD (.lst ((c :: r).map D.int)) (.int 0) = some (.int c) := atI_ok (xs := D.int c :: r.map D.int) (i := 0) (x := .int c) rfl
  rw [cnt_cons hr] at hc
  unfold cntB
  walk_at "rm"
  refine Rm.eq (lops_ok (Stp.strch n a sh) _) ?_
  walk_at "rm"
  refine ⟨by rw [List.length_map]; omega, ?_⟩
  refine Rm.eq (lcM D.str (fun x => D.int ((lookS c' x).getD 0)) fun y hy => ⟨_, rfl, Rm.det ?_⟩) ?_
  · walk_at "rm"
    exact Rm.lift (known_get (hk y (hf2 y hy))) ⟨rfl, rfl⟩
  rw [show List.map (fun x => D.int ((lookS c' x).getD 0)) (Stp.strch n a sh).ops = (c :: r).map D.int by rw [← hr]; unfold rowsOf; rw [List.map_map]; rfl]
  refine ⟨tupsL_ints _, ?_⟩
  walk_at "rm"
  refine Rm.lift hix ?_
  walk_at "rm"
  have ht : tell (Stp.strch n a sh) c r = none := by
    cases q : (c :: r).any (fun y => !decide (y = c)) with
    | true => exact tell_no q
    | false => exact tell_yes q
  rw [ht] at hc
  exact ⟨rfl, hno hc _⟩
theorem cnt_map {n w a : Str} (ho : ∀ z, z ∈ (Stp.map n w a) :: rest → z.Ok) (hf : Fresh kn ((Stp.map n w a) :: rest)) (hk : Kn kn c') (hl : c'.length + (rest.length + 1) ≤ 1000) (hc : cntG sts (cs0 ins) = cntG ((Stp.map n w a) :: rest) c') (hno : cntG sts (cs0 ins) = none → ∀ ρ, R ρ s) :
    Rm (cntB [.d (.tup [.lst (ins.map inpD), .lst (sts.map Stp.d), .lst (cs.map chkD)]), .od (dcD c'), e2, e3, .d (Stp.map n w a).d, e5, e6, e7, e8, e9, e10, .no]) s fun p s' => match p.1 with
      | .nx => CI ins sts cs s (rest.map Stp.d) p.2 s'
      | .rt d => d = .non ∧ R p.2 s'
      | _ => False := by
  have hsz : sizeLine = 16777216 := rfl
  have so := ho _ List.mem_cons_self
  have ho' : ∀ z, z ∈ rest → z.Ok := fun z hz => ho z (List.mem_cons_of_mem _ hz)
  obtain ⟨hf1, hf2, hf3⟩ := hf
  obtain ⟨c, r, hr, hrl⟩ := rows_ne (cs := c') so
  have h3 := ops_le so
  have hix : ixD (.lst ((c :: r).map D.int)) (.int 0) = some (.int c) := atI_ok (xs := D.int c :: r.map D.int) (i := 0) (x := .int c) rfl
  rw [cnt_cons hr] at hc
  unfold cntB
  walk_at "rm"
  refine Rm.eq (lops_ok (Stp.map n w a) _) ?_
  walk_at "rm"
  refine ⟨by rw [List.length_map]; omega, ?_⟩
  refine Rm.eq (lcM D.str (fun x => D.int ((lookS c' x).getD 0)) fun y hy => ⟨_, rfl, Rm.det ?_⟩) ?_
  · walk_at "rm"
    exact Rm.lift (known_get (hk y (hf2 y hy))) ⟨rfl, rfl⟩
  rw [show List.map (fun x => D.int ((lookS c' x).getD 0)) (Stp.map n w a).ops = (c :: r).map D.int by rw [← hr]; unfold rowsOf; rw [List.map_map]; rfl]
  refine ⟨tupsL_ints _, ?_⟩
  walk_at "rm"
  refine Rm.lift hix ?_
  walk_at "rm"
  refine ⟨by simp only [List.length_cons, List.length_map]; omega, ?_⟩
  refine Rm.eq (anyNe c (c :: r) _ _ _ s fun y => ⟨_, rfl, Rm.det ?_⟩) ?_
  · walk_at "rm"
    refine ⟨?_, rfl⟩
    congr 2
    simp
  walk_at "rm"
  refine Rm.lift (any_bls _ _) ?_
  walk_at "rm"
  cases hq : (c :: r).any (fun y => !decide (y = c)) with
  | true =>
    rw [tell_no hq] at hc
    walk_at "rm"
    exact ⟨rfl, hno hc _⟩
  | false =>
    rw [tell_yes hq] at hc
    walk_at "rm"
    refine Rm.stdk rfl ?_
    walk_at "rm"
    refine Rm.stdk2 rfl (by unfold dcD; rw [List.length_map]; omega) ?_
    refine Rm.lift (a := .inr n) rfl ?_
    rw [putD_dc]
    refine CI.put (st := .map n w a) (v := c + 0 - 0) e2 e3 (.d _) (.d _) (.d _) (.d _) (.d _) e9 (.d _) ho' hf3 hk hl ?_ rfl
    rw [show c + 0 - 0 = c by omega]
    exact hc
theorem cnt_comb_true {n w a b : Str} (ho : ∀ z, z ∈ (Stp.comb true n w a b) :: rest → z.Ok) (hf : Fresh kn ((Stp.comb true n w a b) :: rest)) (hk : Kn kn c') (hl : c'.length + (rest.length + 1) ≤ 1000) (hc : cntG sts (cs0 ins) = cntG ((Stp.comb true n w a b) :: rest) c') (hno : cntG sts (cs0 ins) = none → ∀ ρ, R ρ s) :
    Rm (cntB [.d (.tup [.lst (ins.map inpD), .lst (sts.map Stp.d), .lst (cs.map chkD)]), .od (dcD c'), e2, e3, .d (Stp.comb true n w a b).d, e5, e6, e7, e8, e9, e10, .no]) s fun p s' => match p.1 with
      | .nx => CI ins sts cs s (rest.map Stp.d) p.2 s'
      | .rt d => d = .non ∧ R p.2 s'
      | _ => False := by
  have hsz : sizeLine = 16777216 := rfl
  have so := ho _ List.mem_cons_self
  have ho' : ∀ z, z ∈ rest → z.Ok := fun z hz => ho z (List.mem_cons_of_mem _ hz)
  obtain ⟨hf1, hf2, hf3⟩ := hf
  obtain ⟨c, r, hr, hrl⟩ := rows_ne (cs := c') so
  have h3 := ops_le so
  have hix : ixD (.lst ((c :: r).map D.int)) (.int 0) = some (.int c) := atI_ok (xs := D.int c :: r.map D.int) (i := 0) (x := .int c) rfl
  rw [cnt_cons hr] at hc
  unfold cntB
  walk_at "rm"
  refine Rm.eq (lops_ok (Stp.comb true n w a b) _) ?_
  walk_at "rm"
  refine ⟨by rw [List.length_map]; omega, ?_⟩
  refine Rm.eq (lcM D.str (fun x => D.int ((lookS c' x).getD 0)) fun y hy => ⟨_, rfl, Rm.det ?_⟩) ?_
  · walk_at "rm"
    exact Rm.lift (known_get (hk y (hf2 y hy))) ⟨rfl, rfl⟩
  rw [show List.map (fun x => D.int ((lookS c' x).getD 0)) (Stp.comb true n w a b).ops = (c :: r).map D.int by rw [← hr]; unfold rowsOf; rw [List.map_map]; rfl]
  refine ⟨tupsL_ints _, ?_⟩
  walk_at "rm"
  refine Rm.lift hix ?_
  walk_at "rm"
  refine ⟨by simp only [List.length_cons, List.length_map]; omega, ?_⟩
  refine Rm.eq (anyNe c (c :: r) _ _ _ s fun y => ⟨_, rfl, Rm.det ?_⟩) ?_
  · walk_at "rm"
    refine ⟨?_, rfl⟩
    congr 2
    simp
  walk_at "rm"
  refine Rm.lift (any_bls _ _) ?_
  walk_at "rm"
  cases hq : (c :: r).any (fun y => !decide (y = c)) with
  | true =>
    rw [tell_no hq] at hc
    walk_at "rm"
    exact ⟨rfl, hno hc _⟩
  | false =>
    rw [tell_yes hq] at hc
    walk_at "rm"
    refine Rm.stdk rfl ?_
    walk_at "rm"
    refine Rm.stdk2 rfl (by unfold dcD; rw [List.length_map]; omega) ?_
    refine Rm.lift (a := .inr n) rfl ?_
    rw [putD_dc]
    refine CI.put (st := .comb true n w a b) (v := c + 0 - 0) e2 e3 (.d _) (.d _) (.d _) (.d _) (.d _) e9 (.d _) ho' hf3 hk hl ?_ rfl
    rw [show c + 0 - 0 = c by omega]
    exact hc
theorem cnt_comb_false {n w a b : Str} (ho : ∀ z, z ∈ (Stp.comb false n w a b) :: rest → z.Ok) (hf : Fresh kn ((Stp.comb false n w a b) :: rest)) (hk : Kn kn c') (hl : c'.length + (rest.length + 1) ≤ 1000) (hc : cntG sts (cs0 ins) = cntG ((Stp.comb false n w a b) :: rest) c') (hno : cntG sts (cs0 ins) = none → ∀ ρ, R ρ s) :
    Rm (cntB [.d (.tup [.lst (ins.map inpD), .lst (sts.map Stp.d), .lst (cs.map chkD)]), .od (dcD c'), e2, e3, .d (Stp.comb false n w a b).d, e5, e6, e7, e8, e9, e10, .no]) s fun p s' => match p.1 with
      | .nx => CI ins sts cs s (rest.map Stp.d) p.2 s'
      | .rt d => d = .non ∧ R p.2 s'
      | _ => False := by
  have hsz : sizeLine = 16777216 := rfl
  have so := ho _ List.mem_cons_self
  have ho' : ∀ z, z ∈ rest → z.Ok := fun z hz => ho z (List.mem_cons_of_mem _ hz)
  obtain ⟨hf1, hf2, hf3⟩ := hf
  obtain ⟨c, r, hr, hrl⟩ := rows_ne (cs := c') so
  have h3 := ops_le so
  have hix : ixD (.lst ((c :: r).map D.int)) (.int 0) = some (.int c) := atI_ok (xs := D.int c :: r.map D.int) (i := 0) (x := .int c) rfl
  rw [cnt_cons hr] at hc
  unfold cntB
  walk_at "rm"
  refine Rm.eq (lops_ok (Stp.comb false n w a b) _) ?_
  walk_at "rm"
  refine ⟨by rw [List.length_map]; omega, ?_⟩
  refine Rm.eq (lcM D.str (fun x => D.int ((lookS c' x).getD 0)) fun y hy => ⟨_, rfl, Rm.det ?_⟩) ?_
  · walk_at "rm"
    exact Rm.lift (known_get (hk y (hf2 y hy))) ⟨rfl, rfl⟩
  rw [show List.map (fun x => D.int ((lookS c' x).getD 0)) (Stp.comb false n w a b).ops = (c :: r).map D.int by rw [← hr]; unfold rowsOf; rw [List.map_map]; rfl]
  refine ⟨tupsL_ints _, ?_⟩
  walk_at "rm"
  refine Rm.lift hix ?_
  walk_at "rm"
  refine ⟨by simp only [List.length_cons, List.length_map]; omega, ?_⟩
  refine Rm.eq (anyNe c (c :: r) _ _ _ s fun y => ⟨_, rfl, Rm.det ?_⟩) ?_
  · walk_at "rm"
    refine ⟨?_, rfl⟩
    congr 2
    simp
  walk_at "rm"
  refine Rm.lift (any_bls _ _) ?_
  walk_at "rm"
  cases hq : (c :: r).any (fun y => !decide (y = c)) with
  | true =>
    rw [tell_no hq] at hc
    walk_at "rm"
    exact ⟨rfl, hno hc _⟩
  | false =>
    rw [tell_yes hq] at hc
    walk_at "rm"
    refine Rm.stdk rfl ?_
    walk_at "rm"
    refine Rm.stdk2 rfl (by unfold dcD; rw [List.length_map]; omega) ?_
    refine Rm.lift (a := .inr n) rfl ?_
    rw [putD_dc]
    refine CI.put (st := .comb false n w a b) (v := c + 0 - 0) e2 e3 (.d _) (.d _) (.d _) (.d _) (.d _) e9 (.d _) ho' hf3 hk hl ?_ rfl
    rw [show c + 0 - 0 = c by omega]
    exact hc
theorem cnt_prod {n a b : Str} (ho : ∀ z, z ∈ (Stp.prod n a b) :: rest → z.Ok) (hf : Fresh kn ((Stp.prod n a b) :: rest)) (hk : Kn kn c') (hl : c'.length + (rest.length + 1) ≤ 1000) (hc : cntG sts (cs0 ins) = cntG ((Stp.prod n a b) :: rest) c') (hno : cntG sts (cs0 ins) = none → ∀ ρ, R ρ s) :
    Rm (cntB [.d (.tup [.lst (ins.map inpD), .lst (sts.map Stp.d), .lst (cs.map chkD)]), .od (dcD c'), e2, e3, .d (Stp.prod n a b).d, e5, e6, e7, e8, e9, e10, .no]) s fun p s' => match p.1 with
      | .nx => CI ins sts cs s (rest.map Stp.d) p.2 s'
      | .rt d => d = .non ∧ R p.2 s'
      | _ => False := by
  have hsz : sizeLine = 16777216 := rfl
  have so := ho _ List.mem_cons_self
  have ho' : ∀ z, z ∈ rest → z.Ok := fun z hz => ho z (List.mem_cons_of_mem _ hz)
  obtain ⟨hf1, hf2, hf3⟩ := hf
  obtain ⟨c, r, hr, hrl⟩ := rows_ne (cs := c') so
  have h3 := ops_le so
  have hix : ixD (.lst ((c :: r).map D.int)) (.int 0) = some (.int c) := atI_ok (xs := D.int c :: r.map D.int) (i := 0) (x := .int c) rfl
  rw [cnt_cons hr] at hc
  unfold cntB
  walk_at "rm"
  refine Rm.eq (lops_ok (Stp.prod n a b) _) ?_
  walk_at "rm"
  refine ⟨by rw [List.length_map]; omega, ?_⟩
  refine Rm.eq (lcM D.str (fun x => D.int ((lookS c' x).getD 0)) fun y hy => ⟨_, rfl, Rm.det ?_⟩) ?_
  · walk_at "rm"
    exact Rm.lift (known_get (hk y (hf2 y hy))) ⟨rfl, rfl⟩
  rw [show List.map (fun x => D.int ((lookS c' x).getD 0)) (Stp.prod n a b).ops = (c :: r).map D.int by rw [← hr]; unfold rowsOf; rw [List.map_map]; rfl]
  refine ⟨tupsL_ints _, ?_⟩
  walk_at "rm"
  refine Rm.lift hix ?_
  walk_at "rm"
  refine ⟨by simp only [List.length_cons, List.length_map]; omega, ?_⟩
  refine Rm.eq (anyNe c (c :: r) _ _ _ s fun y => ⟨_, rfl, Rm.det ?_⟩) ?_
  · walk_at "rm"
    refine ⟨?_, rfl⟩
    congr 2
    simp
  walk_at "rm"
  refine Rm.lift (any_bls _ _) ?_
  walk_at "rm"
  cases hq : (c :: r).any (fun y => !decide (y = c)) with
  | true =>
    rw [tell_no hq] at hc
    walk_at "rm"
    exact ⟨rfl, hno hc _⟩
  | false =>
    rw [tell_yes hq] at hc
    walk_at "rm"
    refine Rm.ite (fun h1 => ?_) (fun h1 => ?_)
    · have h1 := of_decide_eq_true h1
      rw [show tell1 (.prod n a b) c = none from if_neg (by omega)] at hc
      walk_at "rm"
      exact ⟨rfl, hno hc _⟩
    have h1 := of_decide_eq_false h1
    rw [show tell1 (.prod n a b) c = some c from if_pos (by omega)] at hc
    walk_at "rm"
    refine Rm.stdk rfl ?_
    walk_at "rm"
    refine Rm.stdk2 rfl (by unfold dcD; rw [List.length_map]; omega) ?_
    refine Rm.lift (a := .inr n) rfl ?_
    rw [putD_dc]
    refine CI.put (st := .prod n a b) (v := c + 0 - 0) e2 e3 (.d _) (.d _) (.d _) (.d _) (.d _) e9 (.d _) ho' hf3 hk hl ?_ rfl
    rw [show c + 0 - 0 = c by omega]
    exact hc
theorem cnt_trans {n a : Str} {o : List Int} (ho : ∀ z, z ∈ (Stp.trans n a o) :: rest → z.Ok) (hf : Fresh kn ((Stp.trans n a o) :: rest)) (hk : Kn kn c') (hl : c'.length + (rest.length + 1) ≤ 1000) (hc : cntG sts (cs0 ins) = cntG ((Stp.trans n a o) :: rest) c') (hno : cntG sts (cs0 ins) = none → ∀ ρ, R ρ s) :
    Rm (cntB [.d (.tup [.lst (ins.map inpD), .lst (sts.map Stp.d), .lst (cs.map chkD)]), .od (dcD c'), e2, e3, .d (Stp.trans n a o).d, e5, e6, e7, e8, e9, e10, .no]) s fun p s' => match p.1 with
      | .nx => CI ins sts cs s (rest.map Stp.d) p.2 s'
      | .rt d => d = .non ∧ R p.2 s'
      | _ => False := by
  have hsz : sizeLine = 16777216 := rfl
  have so := ho _ List.mem_cons_self
  have ho' : ∀ z, z ∈ rest → z.Ok := fun z hz => ho z (List.mem_cons_of_mem _ hz)
  obtain ⟨hf1, hf2, hf3⟩ := hf
  obtain ⟨c, r, hr, hrl⟩ := rows_ne (cs := c') so
  have h3 := ops_le so
  have hix : ixD (.lst ((c :: r).map D.int)) (.int 0) = some (.int c) := atI_ok (xs := D.int c :: r.map D.int) (i := 0) (x := .int c) rfl
  rw [cnt_cons hr] at hc
  unfold cntB
  walk_at "rm"
  refine Rm.eq (lops_ok (Stp.trans n a o) _) ?_
  walk_at "rm"
  refine ⟨by rw [List.length_map]; omega, ?_⟩
  refine Rm.eq (lcM D.str (fun x => D.int ((lookS c' x).getD 0)) fun y hy => ⟨_, rfl, Rm.det ?_⟩) ?_
  · walk_at "rm"
    exact Rm.lift (known_get (hk y (hf2 y hy))) ⟨rfl, rfl⟩
  rw [show List.map (fun x => D.int ((lookS c' x).getD 0)) (Stp.trans n a o).ops = (c :: r).map D.int by rw [← hr]; unfold rowsOf; rw [List.map_map]; rfl]
  refine ⟨tupsL_ints _, ?_⟩
  walk_at "rm"
  refine Rm.lift hix ?_
  walk_at "rm"
  refine ⟨by simp only [List.length_cons, List.length_map]; omega, ?_⟩
  refine Rm.eq (anyNe c (c :: r) _ _ _ s fun y => ⟨_, rfl, Rm.det ?_⟩) ?_
  · walk_at "rm"
    refine ⟨?_, rfl⟩
    congr 2
    simp
  walk_at "rm"
  refine Rm.lift (any_bls _ _) ?_
  walk_at "rm"
  cases hq : (c :: r).any (fun y => !decide (y = c)) with
  | true =>
    rw [tell_no hq] at hc
    walk_at "rm"
    exact ⟨rfl, hno hc _⟩
  | false =>
    rw [tell_yes hq] at hc
    walk_at "rm"
    refine Rm.ite (fun h1 => ?_) (fun h1 => ?_)
    · have h1 := of_decide_eq_true h1
      rw [List.length_map] at h1
      rw [show tell1 (.trans n a o) c = none from if_neg (by omega)] at hc
      walk_at "rm"
      exact ⟨rfl, hno hc _⟩
    have h1 := of_decide_eq_false h1
    rw [List.length_map] at h1
    rw [show tell1 (.trans n a o) c = some c from if_pos (by omega)] at hc
    walk_at "rm"
    refine Rm.stdk rfl ?_
    walk_at "rm"
    refine Rm.stdk2 rfl (by unfold dcD; rw [List.length_map]; omega) ?_
    refine Rm.lift (a := .inr n) rfl ?_
    rw [putD_dc]
    refine CI.put (st := .trans n a o) (v := c + 0 - 0) e2 e3 (.d _) (.d _) (.d _) (.d _) (.d _) e9 (.d _) ho' hf3 hk hl ?_ rfl
    rw [show c + 0 - 0 = c by omega]
    exact hc
theorem cnt_insr {n a : Str} {ax : Int} (ho : ∀ z, z ∈ (Stp.insr n a ax) :: rest → z.Ok) (hf : Fresh kn ((Stp.insr n a ax) :: rest)) (hk : Kn kn c') (hl : c'.length + (rest.length + 1) ≤ 1000) (hc : cntG sts (cs0 ins) = cntG ((Stp.insr n a ax) :: rest) c') (hno : cntG sts (cs0 ins) = none → ∀ ρ, R ρ s) :
    Rm (cntB [.d (.tup [.lst (ins.map inpD), .lst (sts.map Stp.d), .lst (cs.map chkD)]), .od (dcD c'), e2, e3, .d (Stp.insr n a ax).d, e5, e6, e7, e8, e9, e10, .no]) s fun p s' => match p.1 with
      | .nx => CI ins sts cs s (rest.map Stp.d) p.2 s'
      | .rt d => d = .non ∧ R p.2 s'
      | _ => False := by
  have hsz : sizeLine = 16777216 := rfl
  have so := ho _ List.mem_cons_self
  have ho' : ∀ z, z ∈ rest → z.Ok := fun z hz => ho z (List.mem_cons_of_mem _ hz)
  obtain ⟨hf1, hf2, hf3⟩ := hf
  obtain ⟨c, r, hr, hrl⟩ := rows_ne (cs := c') so
  have h3 := ops_le so
  have hix : ixD (.lst ((c :: r).map D.int)) (.int 0) = some (.int c) := atI_ok (xs := D.int c :: r.map D.int) (i := 0) (x := .int c) rfl
  rw [cnt_cons hr] at hc
  unfold cntB
  walk_at "rm"
  refine Rm.eq (lops_ok (Stp.insr n a ax) _) ?_
  walk_at "rm"
  refine ⟨by rw [List.length_map]; omega, ?_⟩
  refine Rm.eq (lcM D.str (fun x => D.int ((lookS c' x).getD 0)) fun y hy => ⟨_, rfl, Rm.det ?_⟩) ?_
  · walk_at "rm"
    exact Rm.lift (known_get (hk y (hf2 y hy))) ⟨rfl, rfl⟩
  rw [show List.map (fun x => D.int ((lookS c' x).getD 0)) (Stp.insr n a ax).ops = (c :: r).map D.int by rw [← hr]; unfold rowsOf; rw [List.map_map]; rfl]
  refine ⟨tupsL_ints _, ?_⟩
  walk_at "rm"
  refine Rm.lift hix ?_
  walk_at "rm"
  refine ⟨by simp only [List.length_cons, List.length_map]; omega, ?_⟩
  refine Rm.eq (anyNe c (c :: r) _ _ _ s fun y => ⟨_, rfl, Rm.det ?_⟩) ?_
  · walk_at "rm"
    refine ⟨?_, rfl⟩
    congr 2
    simp
  walk_at "rm"
  refine Rm.lift (any_bls _ _) ?_
  walk_at "rm"
  cases hq : (c :: r).any (fun y => !decide (y = c)) with
  | true =>
    rw [tell_no hq] at hc
    walk_at "rm"
    exact ⟨rfl, hno hc _⟩
  | false =>
    rw [tell_yes hq] at hc
    walk_at "rm"
    refine Rm.ite (fun h1 => ?_) (fun h1 => ?_)
    · have h1 := of_decide_eq_true h1
      rw [show tell1 (.insr n a ax) c = none from if_neg (by omega)] at hc
      walk_at "rm"
      exact ⟨rfl, hno hc _⟩
    have h1 := of_decide_eq_false h1
    walk_at "rm"
    refine Rm.ite (fun h2 => ?_) (fun h2 => ?_)
    · have h2 : ax < 0 - c - 1 := of_decide_eq_true h2
      rw [show tell1 (.insr n a ax) c = none from if_neg (by omega)] at hc
      walk_at "rm"
      exact ⟨rfl, hno hc _⟩
    have h2 : ¬ ax < 0 - c - 1 := of_decide_eq_false h2
    rw [show tell1 (.insr n a ax) c = some (c + 1) from if_pos (by omega)] at hc
    walk_at "rm"
    refine Rm.stdk rfl ?_
    walk_at "rm"
    refine Rm.stdk2 rfl (by unfold dcD; rw [List.length_map]; omega) ?_
    refine Rm.lift (a := .inr n) rfl ?_
    rw [putD_dc]
    refine CI.put (st := .insr n a ax) (v := c + 1 - 0) e2 e3 (.d _) (.d _) (.d _) (.d _) (.d _) (.d _) (.d _) ho' hf3 hk hl ?_ rfl
    rw [show c + 1 - 0 = c + 1 by omega]
    exact hc
theorem cnt_remv {n a : Str} {ax : Int} (ho : ∀ z, z ∈ (Stp.remv n a ax) :: rest → z.Ok) (hf : Fresh kn ((Stp.remv n a ax) :: rest)) (hk : Kn kn c') (hl : c'.length + (rest.length + 1) ≤ 1000) (hc : cntG sts (cs0 ins) = cntG ((Stp.remv n a ax) :: rest) c') (hno : cntG sts (cs0 ins) = none → ∀ ρ, R ρ s) :
    Rm (cntB [.d (.tup [.lst (ins.map inpD), .lst (sts.map Stp.d), .lst (cs.map chkD)]), .od (dcD c'), e2, e3, .d (Stp.remv n a ax).d, e5, e6, e7, e8, e9, e10, .no]) s fun p s' => match p.1 with
      | .nx => CI ins sts cs s (rest.map Stp.d) p.2 s'
      | .rt d => d = .non ∧ R p.2 s'
      | _ => False := by
  have hsz : sizeLine = 16777216 := rfl
  have so := ho _ List.mem_cons_self
  have ho' : ∀ z, z ∈ rest → z.Ok := fun z hz => ho z (List.mem_cons_of_mem _ hz)
  obtain ⟨hf1, hf2, hf3⟩ := hf
  obtain ⟨c, r, hr, hrl⟩ := rows_ne (cs := c') so
  have h3 := ops_le so
  have hix : ixD (.lst ((c :: r).map D.int)) (.int 0) = some (.int c) := atI_ok (xs := D.int c :: r.map D.int) (i := 0) (x := .int c) rfl
  rw [cnt_cons hr] at hc
  unfold cntB
  walk_at "rm"
  refine Rm.eq (lops_ok (Stp.remv n a ax) _) ?_
  walk_at "rm"
  refine ⟨by rw [List.length_map]; omega, ?_⟩
  refine Rm.eq (lcM D.str (fun x => D.int ((lookS c' x).getD 0)) fun y hy => ⟨_, rfl, Rm.det ?_⟩) ?_
  · walk_at "rm"
    exact Rm.lift (known_get (hk y (hf2 y hy))) ⟨rfl, rfl⟩
  rw [show List.map (fun x => D.int ((lookS c' x).getD 0)) (Stp.remv n a ax).ops = (c :: r).map D.int by rw [← hr]; unfold rowsOf; rw [List.map_map]; rfl]
  refine ⟨tupsL_ints _, ?_⟩
  walk_at "rm"
  refine Rm.lift hix ?_
  walk_at "rm"
  refine ⟨by simp only [List.length_cons, List.length_map]; omega, ?_⟩
  refine Rm.eq (anyNe c (c :: r) _ _ _ s fun y => ⟨_, rfl, Rm.det ?_⟩) ?_
  · walk_at "rm"
    refine ⟨?_, rfl⟩
    congr 2
    simp
  walk_at "rm"
  refine Rm.lift (any_bls _ _) ?_
  walk_at "rm"
  cases hq : (c :: r).any (fun y => !decide (y = c)) with
  | true =>
    rw [tell_no hq] at hc
    walk_at "rm"
    exact ⟨rfl, hno hc _⟩
  | false =>
    rw [tell_yes hq] at hc
    walk_at "rm"
    refine Rm.ite (fun h1 => ?_) (fun h1 => ?_)
    · have h1 := of_decide_eq_true h1
      rw [show tell1 (.remv n a ax) c = none from if_neg (by omega)] at hc
      walk_at "rm"
      exact ⟨rfl, hno hc _⟩
    have h1 := of_decide_eq_false h1
    walk_at "rm"
    refine Rm.ite (fun h2 => ?_) (fun h2 => ?_)
    · have h2 : ax < 0 - c - 0 := of_decide_eq_true h2
      rw [show tell1 (.remv n a ax) c = none from if_neg (by omega)] at hc
      walk_at "rm"
      exact ⟨rfl, hno hc _⟩
    have h2 : ¬ ax < 0 - c - 0 := of_decide_eq_false h2
    rw [show tell1 (.remv n a ax) c = some (c - 1) from if_pos (by omega)] at hc
    walk_at "rm"
    refine Rm.stdk rfl ?_
    walk_at "rm"
    refine Rm.stdk2 rfl (by unfold dcD; rw [List.length_map]; omega) ?_
    refine Rm.lift (a := .inr n) rfl ?_
    rw [putD_dc]
    refine CI.put (st := .remv n a ax) (v := c + 0 - 1) e2 e3 (.d _) (.d _) (.d _) (.d _) (.d _) (.d _) (.d _) ho' hf3 hk hl ?_ rfl
    rw [show c + 0 - 1 = c - 1 by omega]
    exact hc
theorem cnt_stck {n : Str} {as : List Str} {ax : Int} (ho : ∀ z, z ∈ (Stp.stck n as ax) :: rest → z.Ok) (hf : Fresh kn ((Stp.stck n as ax) :: rest)) (hk : Kn kn c') (hl : c'.length + (rest.length + 1) ≤ 1000) (hc : cntG sts (cs0 ins) = cntG ((Stp.stck n as ax) :: rest) c') (hno : cntG sts (cs0 ins) = none → ∀ ρ, R ρ s) :
    Rm (cntB [.d (.tup [.lst (ins.map inpD), .lst (sts.map Stp.d), .lst (cs.map chkD)]), .od (dcD c'), e2, e3, .d (Stp.stck n as ax).d, e5, e6, e7, e8, e9, e10, .no]) s fun p s' => match p.1 with
      | .nx => CI ins sts cs s (rest.map Stp.d) p.2 s'
      | .rt d => d = .non ∧ R p.2 s'
      | _ => False := by
  have hsz : sizeLine = 16777216 := rfl
  have so := ho _ List.mem_cons_self
  have ho' : ∀ z, z ∈ rest → z.Ok := fun z hz => ho z (List.mem_cons_of_mem _ hz)
  obtain ⟨hf1, hf2, hf3⟩ := hf
  obtain ⟨c, r, hr, hrl⟩ := rows_ne (cs := c') so
  have h3 := ops_le so
  have hix : ixD (.lst ((c :: r).map D.int)) (.int 0) = some (.int c) := atI_ok (xs := D.int c :: r.map D.int) (i := 0) (x := .int c) rfl
  rw [cnt_cons hr] at hc
  unfold cntB
  walk_at "rm"
  refine Rm.eq (lops_ok (Stp.stck n as ax) _) ?_
  walk_at "rm"
  refine ⟨by rw [List.length_map]; omega, ?_⟩
  refine Rm.eq (lcM D.str (fun x => D.int ((lookS c' x).getD 0)) fun y hy => ⟨_, rfl, Rm.det ?_⟩) ?_
  · walk_at "rm"
    exact Rm.lift (known_get (hk y (hf2 y hy))) ⟨rfl, rfl⟩
  rw [show List.map (fun x => D.int ((lookS c' x).getD 0)) (Stp.stck n as ax).ops = (c :: r).map D.int by rw [← hr]; unfold rowsOf; rw [List.map_map]; rfl]
  refine ⟨tupsL_ints _, ?_⟩
  walk_at "rm"
  refine Rm.lift hix ?_
  walk_at "rm"
  refine ⟨by simp only [List.length_cons, List.length_map]; omega, ?_⟩
  refine Rm.eq (anyNe c (c :: r) _ _ _ s fun y => ⟨_, rfl, Rm.det ?_⟩) ?_
  · walk_at "rm"
    refine ⟨?_, rfl⟩
    congr 2
    simp
  walk_at "rm"
  refine Rm.lift (any_bls _ _) ?_
  walk_at "rm"
  cases hq : (c :: r).any (fun y => !decide (y = c)) with
  | true =>
    rw [tell_no hq] at hc
    walk_at "rm"
    exact ⟨rfl, hno hc _⟩
  | false =>
    rw [tell_yes hq] at hc
    walk_at "rm"
    refine Rm.ite (fun h1 => ?_) (fun h1 => ?_)
    · have h1 := of_decide_eq_true h1
      rw [show tell1 (.stck n as ax) c = none from if_neg (by omega)] at hc
      walk_at "rm"
      exact ⟨rfl, hno hc _⟩
    have h1 := of_decide_eq_false h1
    walk_at "rm"
    refine Rm.ite (fun h2 => ?_) (fun h2 => ?_)
    · have h2 : ax < 0 - c - 1 := of_decide_eq_true h2
      rw [show tell1 (.stck n as ax) c = none from if_neg (by omega)] at hc
      walk_at "rm"
      exact ⟨rfl, hno hc _⟩
    have h2 : ¬ ax < 0 - c - 1 := of_decide_eq_false h2
    rw [show tell1 (.stck n as ax) c = some (c + 1) from if_pos (by omega)] at hc
    walk_at "rm"
    refine Rm.stdk rfl ?_
    walk_at "rm"
    refine Rm.stdk2 rfl (by unfold dcD; rw [List.length_map]; omega) ?_
    refine Rm.lift (a := .inr n) rfl ?_
    rw [putD_dc]
    refine CI.put (st := .stck n as ax) (v := c + 1 - 0) e2 e3 (.d _) (.d _) (.d _) (.d _) (.d _) (.d _) (.d _) ho' hf3 hk hl ?_ rfl
    rw [show c + 1 - 0 = c + 1 by omega]
    exact hc
theorem cnt_red_t {n w a : Str} {ax : Int} (ho : ∀ z, z ∈ (Stp.red n w a ax true) :: rest → z.Ok) (hf : Fresh kn ((Stp.red n w a ax true) :: rest)) (hk : Kn kn c') (hl : c'.length + (rest.length + 1) ≤ 1000) (hc : cntG sts (cs0 ins) = cntG ((Stp.red n w a ax true) :: rest) c') (hno : cntG sts (cs0 ins) = none → ∀ ρ, R ρ s) :
    Rm (cntB [.d (.tup [.lst (ins.map inpD), .lst (sts.map Stp.d), .lst (cs.map chkD)]), .od (dcD c'), e2, e3, .d (Stp.red n w a ax true).d, e5, e6, e7, e8, e9, e10, .no]) s fun p s' => match p.1 with
      | .nx => CI ins sts cs s (rest.map Stp.d) p.2 s'
      | .rt d => d = .non ∧ R p.2 s'
      | _ => False := by
  have hsz : sizeLine = 16777216 := rfl
  have so := ho _ List.mem_cons_self
  have ho' : ∀ z, z ∈ rest → z.Ok := fun z hz => ho z (List.mem_cons_of_mem _ hz)
  obtain ⟨hf1, hf2, hf3⟩ := hf
  obtain ⟨c, r, hr, hrl⟩ := rows_ne (cs := c') so
  have h3 := ops_le so
  have hix : ixD (.lst ((c :: r).map D.int)) (.int 0) = some (.int c) := atI_ok (xs := D.int c :: r.map D.int) (i := 0) (x := .int c) rfl
  rw [cnt_cons hr] at hc
  unfold cntB
  walk_at "rm"
  refine Rm.eq (lops_ok (Stp.red n w a ax true) _) ?_
  walk_at "rm"
  refine ⟨by rw [List.length_map]; omega, ?_⟩
  refine Rm.eq (lcM D.str (fun x => D.int ((lookS c' x).getD 0)) fun y hy => ⟨_, rfl, Rm.det ?_⟩) ?_
  · walk_at "rm"
    exact Rm.lift (known_get (hk y (hf2 y hy))) ⟨rfl, rfl⟩
  rw [show List.map (fun x => D.int ((lookS c' x).getD 0)) (Stp.red n w a ax true).ops = (c :: r).map D.int by rw [← hr]; unfold rowsOf; rw [List.map_map]; rfl]
  refine ⟨tupsL_ints _, ?_⟩
  walk_at "rm"
  refine Rm.lift hix ?_
  walk_at "rm"
  refine ⟨by simp only [List.length_cons, List.length_map]; omega, ?_⟩
  refine Rm.eq (anyNe c (c :: r) _ _ _ s fun y => ⟨_, rfl, Rm.det ?_⟩) ?_
  · walk_at "rm"
    refine ⟨?_, rfl⟩
    congr 2
    simp
  walk_at "rm"
  refine Rm.lift (any_bls _ _) ?_
  walk_at "rm"
  cases hq : (c :: r).any (fun y => !decide (y = c)) with
  | true =>
    rw [tell_no hq] at hc
    walk_at "rm"
    exact ⟨rfl, hno hc _⟩
  | false =>
    rw [tell_yes hq] at hc
    walk_at "rm"
    refine Rm.ite (fun h1 => ?_) (fun h1 => ?_)
    · have h1 := of_decide_eq_true h1
      rw [show tell1 (.red n w a ax true) c = none from if_neg (by omega)] at hc
      walk_at "rm"
      exact ⟨rfl, hno hc _⟩
    have h1 := of_decide_eq_false h1
    walk_at "rm"
    refine Rm.ite (fun h2 => ?_) (fun h2 => ?_)
    · have h2 : ax < 0 - c - 0 := of_decide_eq_true h2
      rw [show tell1 (.red n w a ax true) c = none from if_neg (by omega)] at hc
      walk_at "rm"
      exact ⟨rfl, hno hc _⟩
    have h2 : ¬ ax < 0 - c - 0 := of_decide_eq_false h2
    rw [show tell1 (.red n w a ax true) c = some (c) from if_pos (by omega)] at hc
    walk_at "rm"
    refine Rm.stdk rfl ?_
    walk_at "rm"
    refine Rm.stdk2 rfl (by unfold dcD; rw [List.length_map]; omega) ?_
    refine Rm.lift (a := .inr n) rfl ?_
    rw [putD_dc]
    refine CI.put (st := .red n w a ax true) (v := c + 0 - 0) e2 e3 (.d _) (.d _) (.d _) (.d _) (.d _) (.d _) (.d _) ho' hf3 hk hl ?_ rfl
    rw [show c + 0 - 0 = c by omega]
    exact hc
theorem cnt_red_f {n w a : Str} {ax : Int} (ho : ∀ z, z ∈ (Stp.red n w a ax false) :: rest → z.Ok) (hf : Fresh kn ((Stp.red n w a ax false) :: rest)) (hk : Kn kn c') (hl : c'.length + (rest.length + 1) ≤ 1000) (hc : cntG sts (cs0 ins) = cntG ((Stp.red n w a ax false) :: rest) c') (hno : cntG sts (cs0 ins) = none → ∀ ρ, R ρ s) :
    Rm (cntB [.d (.tup [.lst (ins.map inpD), .lst (sts.map Stp.d), .lst (cs.map chkD)]), .od (dcD c'), e2, e3, .d (Stp.red n w a ax false).d, e5, e6, e7, e8, e9, e10, .no]) s fun p s' => match p.1 with
      | .nx => CI ins sts cs s (rest.map Stp.d) p.2 s'
      | .rt d => d = .non ∧ R p.2 s'
      | _ => False := by
  have hsz : sizeLine = 16777216 := rfl
  have so := ho _ List.mem_cons_self
  have ho' : ∀ z, z ∈ rest → z.Ok := fun z hz => ho z (List.mem_cons_of_mem _ hz)
  obtain ⟨hf1, hf2, hf3⟩ := hf
  obtain ⟨c, r, hr, hrl⟩ := rows_ne (cs := c') so
  have h3 := ops_le so
  have hix : ixD (.lst ((c :: r).map D.int)) (.int 0) = some (.int c) := atI_ok (xs := D.int c :: r.map D.int) (i := 0) (x := .int c) rfl
  rw [cnt_cons hr] at hc
  unfold cntB
  walk_at "rm"
  refine Rm.eq (lops_ok (Stp.red n w a ax false) _) ?_
  walk_at "rm"
  refine ⟨by rw [List.length_map]; omega, ?_⟩
  refine Rm.eq (lcM D.str (fun x => D.int ((lookS c' x).getD 0)) fun y hy => ⟨_, rfl, Rm.det ?_⟩) ?_
  · walk_at "rm"
    exact Rm.lift (known_get (hk y (hf2 y hy))) ⟨rfl, rfl⟩
  rw [show List.map (fun x => D.int ((lookS c' x).getD 0)) (Stp.red n w a ax false).ops = (c :: r).map D.int by rw [← hr]; unfold rowsOf; rw [List.map_map]; rfl]
  refine ⟨tupsL_ints _, ?_⟩
  walk_at "rm"
  refine Rm.lift hix ?_
  walk_at "rm"
  refine ⟨by simp only [List.length_cons, List.length_map]; omega, ?_⟩
  refine Rm.eq (anyNe c (c :: r) _ _ _ s fun y => ⟨_, rfl, Rm.det ?_⟩) ?_
  · walk_at "rm"
    refine ⟨?_, rfl⟩
    congr 2
    simp
  walk_at "rm"
  refine Rm.lift (any_bls _ _) ?_
  walk_at "rm"
  cases hq : (c :: r).any (fun y => !decide (y = c)) with
  | true =>
    rw [tell_no hq] at hc
    walk_at "rm"
    exact ⟨rfl, hno hc _⟩
  | false =>
    rw [tell_yes hq] at hc
    walk_at "rm"
    refine Rm.ite (fun h1 => ?_) (fun h1 => ?_)
    · have h1 := of_decide_eq_true h1
      rw [show tell1 (.red n w a ax false) c = none from if_neg (by omega)] at hc
      walk_at "rm"
      exact ⟨rfl, hno hc _⟩
    have h1 := of_decide_eq_false h1
    walk_at "rm"
    refine Rm.ite (fun h2 => ?_) (fun h2 => ?_)
    · have h2 : ax < 0 - c - 0 := of_decide_eq_true h2
      rw [show tell1 (.red n w a ax false) c = none from if_neg (by omega)] at hc
      walk_at "rm"
      exact ⟨rfl, hno hc _⟩
    have h2 : ¬ ax < 0 - c - 0 := of_decide_eq_false h2
    rw [show tell1 (.red n w a ax false) c = some (c - 1) from if_pos (by omega)] at hc
    walk_at "rm"
    refine Rm.stdk rfl ?_
    walk_at "rm"
    refine Rm.stdk2 rfl (by unfold dcD; rw [List.length_map]; omega) ?_
    refine Rm.lift (a := .inr n) rfl ?_
    rw [putD_dc]
    refine CI.put (st := .red n w a ax false) (v := c + 0 - 1) e2 e3 (.d _) (.d _) (.d _) (.d _) (.d _) (.d _) (.d _) ho' hf3 hk hl ?_ rfl
    rw [show c + 0 - 1 = c - 1 by omega]
    exact hc
end

end Q

set_option Elab.async false
set_option linter.all false
set_option maxRecDepth 100000
set_option maxHeartbeats 4000000
namespace Q
open PySem PySem.Spec PyProof.Rows L2 DL
theorem counted_ok {ins : List (Str × List D)} {sts : List Stp} {cs : List (Str × List D)} (P : PrOk ins sts cs) (heq : eqD (.lst (cs.map chkD)) (.lst []) = some (.bl cs.isEmpty)) (s : FS) : g_law_counted [.tup [.lst (ins.map inpD), .lst (sts.map Stp.d), .lst (cs.map chkD)]] s = .ok (cres cs (cntG sts (cs0 ins))) s := by
  have hsz : sizeLine = 16777216 := rfl
  have hi := P.i4
  have hs := P.sl
  refine Rm.det ?_
  unfold g_law_counted
  refine Rm.run rfl ?_
  unfold b_law_counted
  show Rm (gSeq _ _ [.d (.tup [.lst (ins.map inpD), .lst (sts.map Stp.d), .lst (cs.map chkD)]), .no, .no, .no, .no, .no, .no, .no, .no, .no, .no, .no]) s _
  walk_at "rm"
  refine Rm.loop (fun xs ρ s' => ∃ (c' : List (Str × Int)) (rest : List (Str × List D)) (e2 e3 : EV), xs = rest.map inpD ∧ cs0 ins = rest.foldl (fun cs p => putS cs p.1 p.2.length) c' ∧ c'.length + rest.length ≤ 500 ∧ ρ = [.d (.tup [.lst (ins.map inpD), .lst (sts.map Stp.d), .lst (cs.map chkD)]), .od (dcD c'), e2, e3, .no, .no, .no, .no, .no, .no, .no, .no] ∧ s' = s) ⟨[], ins, .no, .no, rfl, rfl, by simp; omega, rfl, rfl⟩ ?_ ?_
  · rintro x r ρ s' ⟨c', rest, e2, e3, hx, h0, hl, rfl, rfl⟩
    cases rest with
    | nil => cases hx
    | cons p rest =>
      rw [List.map_cons] at hx
      injection hx with hx1 hx2
      subst hx1
      subst hx2
      rw [List.length_cons] at hl
      refine ⟨_, rfl, ?_⟩
      walk_at "rm"
      refine Rm.stdk rfl ?_
      walk_at "rm"
      refine Rm.stdk2 rfl (by unfold dcD; rw [List.length_map]; omega) ?_
      refine Rm.lift (a := .inr p.1) rfl ?_
      rw [putD_dc]
      have := putS_len c' p.1 p.2.length
      exact ⟨putS c' p.1 p.2.length, rest, _, _, rfl, h0, by omega, rfl, rfl⟩
  · rintro ρ s' ⟨c', rest, e2, e3, hx, h0, hl, rfl, rfl⟩
    have hr : rest = [] := by
      cases rest with
      | nil => rfl
      | cons _ _ => cases hx
    subst hr
    have h0 : c' = cs0 ins := h0.symm
    subst h0
    walk_at "rm"
    refine Rm.loop (CI ins sts cs s') ⟨cs0 ins, _, sts, e2, e3, .no, .no, .no, .no, .no, .no, .no, rfl, P.sok, P.sfr, kn0 ins, by have := len0_go ins []; unfold cs0; simp at this; omega, rfl, rfl, rfl⟩ ?_ ?_
    · rintro x r ρ s2 ⟨c', kn, rest, e2, e3, e4, e5, e6, e7, e8, e9, e10, hx, ho, hf, hk, hl, hc, rfl, rfl⟩
      cases rest with
      | nil => cases hx
      | cons st rest =>
        rw [List.map_cons] at hx
        injection hx with hx1 hx2
        subst hx1
        subst hx2
        rw [List.length_cons] at hl
        refine ⟨_, rfl, ?_⟩
        have key : Rm (cntB [.d (.tup [.lst (ins.map inpD), .lst (sts.map Stp.d), .lst (cs.map chkD)]), .od (dcD c'), e2, e3, .d st.d, e5, e6, e7, e8, e9, e10, .no]) s2 fun p s' => match p.1 with
            | .nx => CI ins sts cs s2 (rest.map Stp.d) p.2 s'
            | .rt d => d = .non ∧ (s' = s2 ∧ cntG sts (cs0 ins) = none)
            | _ => False := by
          cases st with
          | map n w a => exact cnt_map (R := fun _ s3 => s3 = s2 ∧ cntG sts (cs0 ins) = none) ho hf hk hl hc fun h _ => ⟨rfl, h⟩
          | comb k n w a b => cases k with
            | true => exact cnt_comb_true (R := fun _ s3 => s3 = s2 ∧ cntG sts (cs0 ins) = none) ho hf hk hl hc fun h _ => ⟨rfl, h⟩
            | false => exact cnt_comb_false (R := fun _ s3 => s3 = s2 ∧ cntG sts (cs0 ins) = none) ho hf hk hl hc fun h _ => ⟨rfl, h⟩
          | red n w a ax k => cases k with
            | true => exact cnt_red_t (R := fun _ s3 => s3 = s2 ∧ cntG sts (cs0 ins) = none) ho hf hk hl hc fun h _ => ⟨rfl, h⟩
            | false => exact cnt_red_f (R := fun _ s3 => s3 = s2 ∧ cntG sts (cs0 ins) = none) ho hf hk hl hc fun h _ => ⟨rfl, h⟩
          | trans n a o => exact cnt_trans (R := fun _ s3 => s3 = s2 ∧ cntG sts (cs0 ins) = none) ho hf hk hl hc fun h _ => ⟨rfl, h⟩
          | prod n a b => exact cnt_prod (R := fun _ s3 => s3 = s2 ∧ cntG sts (cs0 ins) = none) ho hf hk hl hc fun h _ => ⟨rfl, h⟩
          | insr n a ax => exact cnt_insr (R := fun _ s3 => s3 = s2 ∧ cntG sts (cs0 ins) = none) ho hf hk hl hc fun h _ => ⟨rfl, h⟩
          | remv n a ax => exact cnt_remv (R := fun _ s3 => s3 = s2 ∧ cntG sts (cs0 ins) = none) ho hf hk hl hc fun h _ => ⟨rfl, h⟩
          | sqz n a => exact cnt_sqz (R := fun _ s3 => s3 = s2 ∧ cntG sts (cs0 ins) = none) ho hf hk hl hc fun h _ => ⟨rfl, h⟩
          | strch n a sh => exact cnt_strch (R := fun _ s3 => s3 = s2 ∧ cntG sts (cs0 ins) = none) ho hf hk hl hc fun h _ => ⟨rfl, h⟩
          | stck n as ax => exact cnt_stck (R := fun _ s3 => s3 = s2 ∧ cntG sts (cs0 ins) = none) ho hf hk hl hc fun h _ => ⟨rfl, h⟩
          | sel n a ax i => exact cnt_sel (R := fun _ s3 => s3 = s2 ∧ cntG sts (cs0 ins) = none) ho hf hk hl hc fun h _ => ⟨rfl, h⟩
        refine Rm.mono key fun p s' h => ?_
        obtain ⟨k, ρ'⟩ := p
        cases k with
        | nx => exact h
        | ct => exact h.elim
        | bk => exact h.elim
        | rt d =>
          obtain ⟨rfl, rfl, hn⟩ := h
          dsimp only
          walk_at "rm"
          exact ⟨by rw [hn]; rfl, rfl⟩
    · rintro ρ s2 ⟨c', kn, rest, e2, e3, e4, e5, e6, e7, e8, e9, e10, hx, ho, hf, hk, hl, hc, rfl, rfl⟩
      have hr : rest = [] := by
        cases rest with
        | nil => rfl
        | cons _ _ => cases hx
      subst hr
      rw [hc]
      walk_at "rm"
      refine Rm.lift heq ?_
      walk_at "rm"
      show Rm _ _ _
      cases hcs : cs.isEmpty with
      | true =>
        walk_at "rm"
        exact ⟨by unfold cres cntG; rw [hcs]; rfl, rfl⟩
      | false =>
        walk_at "rm"
        exact ⟨by unfold cres cntG; rw [hcs]; rfl, rfl⟩
theorem unst_none {st : Stp} (h : unstB st = true) (ns : List Int) : tellL st ns = none := by
  cases ns with
  | nil => rfl
  | cons c r =>
    cases q : (c :: r).any (fun y => !decide (y = c)) with
    | true => exact tell_no q
    | false =>
      refine (tell_yes q).trans ?_
      cases st with
      | sqz => rfl
      | sel => rfl
      | _ => cases h
theorem cnt_unst : ∀ (sts : List Stp) (c' : List (Str × Int)), sts.any unstB = true → cntG sts c' = none
  | [], _, h => by cases h
  | st :: r, c', h => by
    show (match tellL st (rowsOf c' st) with
      | none => none
      | some v => cntG r (putS c' st.nm v)) = none
    cases q : tellL st (rowsOf c' st) with
    | none => rfl
    | some v =>
      rw [List.any_cons, Bool.or_eq_true] at h
      rcases h with h | h
      · rw [unst_none h] at q; cases q
      · exact cnt_unst r _ h
/-- THE HEART: both say the same -/
theorem both {sts : List Stp} {cs : List (Str × List D)} {c' : List (Str × Int)} : isnD (cres cs (cntG sts c')) .non = some (.bl (steadyB sts cs && (cntG sts c').isSome)) := by
  cases q : cntG sts c' with
  | none =>
    show some (D.bl false) = some (D.bl (steadyB sts cs && false))
    rw [Bool.and_false]
  | some c =>
    have hu : sts.any unstB = false := by
      cases h : sts.any unstB with
      | false => rfl
      | true => rw [cnt_unst sts c' h] at q; cases q
    unfold steadyB cres
    rw [hu]
    cases cs.isEmpty <;> rfl

end Q

set_option Elab.async false
set_option linter.all false
set_option maxRecDepth 100000
set_option maxHeartbeats 4000000
namespace Q
open PySem PySem.Spec PyProof.Rows L2 DL
def downs (n : Nat) : List Int := (List.range n).map fun i : Nat => (i : Int) - (n : Int)
theorem ints_perm {ys : List D} {a : List Int} (h : ys.Perm (a.map D.int)) : ∃ t : List Int, ys = t.map D.int ∧ t.Perm a := by
  let un : D → Int := fun d => match d with
    | .int i => i
    | _ => 0
  refine ⟨ys.map un, ?_, ?_⟩
  · rw [List.map_map]
    have : ∀ y, y ∈ ys → (D.int ∘ un) y = y := fun y hy => by
      obtain ⟨x, _, rfl⟩ := List.mem_map.mp (h.mem_iff.mp hy)
      rfl
    rw [List.map_congr_left (g := id) this]
    simp
  · have h2 := h.map un
    rw [List.map_map] at h2
    rw [show a.map (un ∘ D.int) = a.map id from List.map_congr_left fun y _ => rfl, List.map_id] at h2
    exact h2
theorem mixed_order_ok {n : Nat} {s : FS} {Q : D → FS → Prop} (hn : n ≤ 4) (ok : s.Ok) (q : ∀ (o : List Int) s', s'.Ok → o.length = n → o.Perm (downs n) → Q (.tup (o.map .int)) s') : Rm (g_law_mixed_order [.feed, .int n]) s Q := by
  have hsz : sizeLine = 16777216 := rfl
  unfold g_law_mixed_order
  refine Rm.run rfl ?_
  unfold b_law_mixed_order
  show Rm (gRet _ [.d .feed, .d (.int n), .no]) s _
  walk_at "rm"
  refine ⟨by rw [rangeD_len]; omega, ?_⟩
  refine Rm.eq (lcM (l := List.range n) (fun i : Nat => D.int (0 + (i : Int))) (fun i => D.int ((i : Int) - (n : Int))) fun i hi => ⟨_, rfl, Rm.det ?_⟩) ?_
  · walk_at "rm"
    refine ⟨?_, rfl⟩
    rw [Int.zero_add]
  walk_at "rm"
  rw [show (List.range n).map (fun i : Nat => D.int ((i : Int) - (n : Int))) = (downs n).map D.int by unfold downs; rw [List.map_map]; rfl]
  refine mixed_ok (xs := (downs n).map D.int) rfl (by unfold downs; simp; omega) ok fun ys s2 ok2 hp => ?_
  obtain ⟨o, rfl, ho⟩ := ints_perm hp
  have hl : o.length = n := by rw [ho.length_eq]; unfold downs; simp
  walk_at "rm"
  exact q o _ ok2 hl ho
theorem order_draw {s : FS} {Q : D → FS → Prop} (ok : s.Ok) (q : ∀ (o : List Int) s', s'.Ok → o.length ≤ 4 → o.Perm (downs o.length) → Q (.tup (o.map .int)) s') : Rm (g_law_order [.feed, .int 3]) s Q := by
  have hsz : sizeLine = 16777216 := rfl
  unfold g_law_order
  refine Rm.run rfl ?_
  unfold b_law_order
  show Rm (gSeq _ _ [.d .feed, .d (.int 3), .no, .no]) s _
  have rest : ∀ (n : Nat) (s1 : FS), n ≤ 4 → s1.Ok → Rm (gRet (dFn tupleD (lCons (dCall g_law_mixed (lCons (dVar 0) (lCons (dNew (dLc (iFn rng1 (lCons (dVar 2) lNil)) (bName 3) cYes (dOp subD (dVar 3) (dVar 2)))) lNil))) lNil)) [.d .feed, .d (.int 3), .d (.int n), .no]) s1 fun p s => Rm (runK p) s Q := fun n s1 hn ok1 => by
    walk_at "rm"
    refine ⟨by rw [rangeD_len]; omega, ?_⟩
    refine Rm.eq (lcM (l := List.range n) (fun i : Nat => D.int (0 + (i : Int))) (fun i => D.int ((i : Int) - (n : Int))) fun i hi => ⟨_, rfl, Rm.det ?_⟩) ?_
    · walk_at "rm"
      refine ⟨?_, rfl⟩
      rw [Int.zero_add]
    walk_at "rm"
    rw [show (List.range n).map (fun i : Nat => D.int ((i : Int) - (n : Int))) = (downs n).map D.int by unfold downs; rw [List.map_map]; rfl]
    refine mixed_ok (xs := (downs n).map D.int) rfl (by unfold downs; simp; omega) ok1 fun ys s2 ok2 hp => ?_
    obtain ⟨o, rfl, ho⟩ := ints_perm hp
    have hl : o.length = n := by rw [ho.length_eq]; unfold downs; simp
    walk_at "rm"
    exact q o _ ok2 (by omega) (by rw [hl]; exact ho)
  walk_at "rm"
  refine Rm.draw (by decide) (by decide) ok fun k s1 ok1 k0 k1 => ?_
  walk_at "rm"
  refine Rm.ite (fun _ => ?_) (fun _ => ?_)
  · walk_at "rm"
    refine Rm.draw (by decide) (by decide) ok1 fun k s2 ok2 k0 k1 => ?_
    obtain ⟨n, rfl⟩ := Int.eq_ofNat_of_zero_le k0
    exact rest n s2 (by omega) ok2
  · walk_at "rm"
    refine Rm.draw (by decide) (by decide) ok1 fun k s2 ok2 k0 k1 => ?_
    obtain ⟨n, rfl⟩ := Int.eq_ofNat_of_zero_le k0
    exact rest n s2 (by omega) ok2
def words : List Str := ["add", "f", "times", "sum", "word", "g"]
theorem words_nm : ∀ w, w ∈ words → nameB w = true := by decide +kernel
theorem word_ok {s : FS} {Q : D → FS → Prop} (ok : s.Ok) (q : ∀ (w : Str) s', s'.Ok → nameB w = true → Q (.str w) s') : Rm (g_law_word [.feed]) s Q := by
  unfold g_law_word
  refine Rm.run rfl ?_
  unfold b_law_word
  show Rm (gRet _ [.d .feed]) s _
  walk_at "rm"
  refine of_ok (by simp) (by simp) ok fun y s1 hy ok1 => ?_
  walk_at "rm"
  have : ∃ w, y = .str w ∧ w ∈ words := by
    simp only [List.mem_cons, List.not_mem_nil, or_false] at hy
    rcases hy with rfl | rfl | rfl | rfl | rfl | rfl <;> exact ⟨_, rfl, by decide +kernel⟩
  obtain ⟨w, rfl, hw⟩ := this
  exact q w _ ok1 (words_nm w hw)
/-- the counts that are known: names to 0 .. 3 -/
structure Cn (c' : List (Str × Int)) : Prop where
  ne : c' ≠ []
  le : c'.length ≤ 100
  ok : ∀ p, p ∈ c' → ∃ v, lookS c' p.1 = some v ∧ 0 ≤ v ∧ v ≤ 3
def kinds : List Str := ["map", "combine", "into", "reduce", "transpose", "product", "insert", "stack", "combine", "combine"]
structure StepOut (c' : List (Str × Int)) (nm : Str) (st : Stp) (v : Int) : Prop where
  nm : st.nm = nm
  ops : ∀ x, x ∈ st.ops → ∃ p, p ∈ c' ∧ p.1 = x
  det : st.Det
  v0 : 0 ≤ v
  v3 : v ≤ 3
  strch : strchB st = false

end Q

set_option Elab.async false
set_option linter.all false
set_option maxRecDepth 100000
set_option maxHeartbeats 4000000
namespace Q
open PySem PySem.Spec PyProof.Rows L2 DL
theorem front_step_ok {c' : List (Str × Int)} {nm : Str} {s : FS} {Q : D → FS → Prop} (C : Cn c') (ok : s.Ok) (q : ∀ (st : Stp) (v : Int) s', s'.Ok → StepOut c' nm st v → Q (.tup [st.d, .int v]) s') : Rm (g_law_front_step [.feed, .str nm, .dic (dcD c'), .lst (kinds.map .str)]) s Q := by
  have hsz : sizeLine = 16777216 := rfl
  have hcl : 0 < c'.length := List.length_pos_iff.mpr C.ne
  have hle := C.le
  have hkeys : ((dcD c').map fun kv => keyV kv.1) = c'.map fun p => D.str p.1 := by unfold dcD; rw [List.map_map]; rfl
  unfold g_law_front_step
  refine Rm.run rfl ?_
  unfold b_law_front_step
  show Rm (gSeq _ _ [.d .feed, .d (.str nm), .d (.dic (dcD c')), .d (.lst (kinds.map .str)), .no, .no, .no, .no, .no, .no, .no, .no, .no]) s _
  walk_at "rm"
  rw [hkeys]
  refine of_ok (by rw [List.length_map]; omega) (by rw [List.length_map]; omega) ok fun y s1 hy ok1 => ?_
  obtain ⟨p, hp, rfl⟩ := List.mem_map.mp hy
  obtain ⟨v, hv, v0, v3⟩ := C.ok p hp
  walk_at "rm"
  refine of_ok (by decide) (by decide) ok1 fun y2 s2 hy2 ok2 => ?_
  obtain ⟨k, hk, rfl⟩ := List.mem_map.mp hy2
  walk_at "rm"
  refine word_ok ok2 fun w s3 ok3 hw => ?_
  walk_at "rm"
  refine Rm.lift (a := .int v) ?_ ?_
  · have := known_get (cs := c') (x := p.1) (by rw [hv]; rfl)
    rw [hv] at this
    exact this
  walk_at "rm"
  refine Rm.keys (kvs := dcD c') rfl ?_
  rw [hkeys]
  refine ⟨by rw [List.length_map]; omega, ?_⟩
  refine Rm.eq (lcA (fun p : Str × Int => D.str p.1) (fun p => decide ((lookS c' p.1).getD 0 = v)) (fun p => D.str p.1) fun p2 hp2 => ⟨_, rfl, Rm.det ?_, fun _ => rfl⟩) ?_
  · walk_at "rm"
    obtain ⟨v2, hv2, _, _⟩ := C.ok p2 hp2
    refine Rm.lift (known_get (cs := c') (x := p2.1) (by rw [hv2]; rfl)) ?_
    walk_at "rm"
    refine ⟨?_, rfl⟩
    simp
  have hmem : p ∈ c'.filter fun p => decide ((lookS c' p.1).getD 0 = v) := List.mem_filter.mpr ⟨hp, by rw [hv]; simp⟩
  have hflt : (c'.filter fun p => decide ((lookS c' p.1).getD 0 = v)).length ≤ c'.length := List.length_filter_le _ _
  walk_at "rm"
  have hpos : 0 < ((c'.filter fun p => decide ((lookS c' p.1).getD 0 = v)).map fun p => D.str p.1).length := by
    rw [List.length_map]
    exact List.length_pos_of_mem hmem
  have hbig : ((c'.filter fun p => decide ((lookS c' p.1).getD 0 = v)).map fun p => D.str p.1).length < 1073741824 := by
    rw [List.length_map]
    omega
  refine Rm.par (by show (9 : Nat) < 13 ∧ (10 : Nat) < 13; decide) ?_
  walk_at "rm"
  refine of_ok hpos hbig ok3 fun y4 s4 hy4 ok4 => ?_
  obtain ⟨p2, hp2, rfl⟩ := List.mem_map.mp hy4
  have hp2 := (List.mem_filter.mp hp2).1
  walk_at "rm"
  refine Rm.draw (by omega) (by omega) ok4 fun j s5 ok5 j0 j1 => ?_
  have one : ∀ x, x ∈ [p.1] → ∃ p, p ∈ c' ∧ p.1 = x := fun x hx => ⟨p, hp, (List.mem_singleton.mp hx).symm⟩
  have two : ∀ x, x ∈ [p.1, p2.1] → ∃ p, p ∈ c' ∧ p.1 = x := fun x hx => by
    rcases List.mem_cons.mp hx with rfl | hx
    · exact ⟨p, hp, rfl⟩
    · exact ⟨p2, hp2, (List.mem_singleton.mp hx).symm⟩
  have omap : StepOut c' nm (.map nm w p.1) v := ⟨rfl, one, hw, v0, v3, rfl⟩
  unfold kinds at hk
  simp only [List.mem_cons, List.not_mem_nil, or_false] at hk
  rcases hk with rfl | rfl | rfl | rfl | rfl | rfl | rfl | rfl | rfl | rfl
  · walk_at "rm"
    exact q (.map nm w p.1) v _ ok5 omap
  · walk_at "rm"
    exact q (.comb false nm w p.1 p2.1) v _ ok5 ⟨rfl, two, hw, v0, v3, rfl⟩
  · walk_at "rm"
    exact q (.comb true nm w p.1 p2.1) v _ ok5 ⟨rfl, two, hw, v0, v3, rfl⟩
  · walk_at "rm"
    refine Rm.ite (fun h => ?_) (fun h => ?_)
    · have h := of_decide_eq_true h
      walk_at "rm"
      refine Rm.draw (by decide) (by decide) ok5 fun j2 s6 ok6 _ _ => ?_
      walk_at "rm"
      generalize decide (j2 = 0) = b
      cases b with
      | true =>
        walk_at "rm"
        exact q (.red nm w p.1 (0 - 1 - j) true) v _ ok6 ⟨rfl, one, ⟨hw, by omega, by omega⟩, v0, v3, rfl⟩
      | false =>
        walk_at "rm"
        exact q (.red nm w p.1 (0 - 1 - j) false) (v - 1) _ ok6 ⟨rfl, one, ⟨hw, by omega, by omega⟩, by omega, by omega, rfl⟩
    · walk_at "rm"
      exact q (.map nm w p.1) v _ ok5 omap
  · obtain ⟨n, rfl⟩ := Int.eq_ofNat_of_zero_le v0
    walk_at "rm"
    refine mixed_order_ok (n := n) (by omega) ok5 fun o s6 ok6 hl ho => ?_
    walk_at "rm"
    exact q (.trans nm p.1 o) n _ ok6 ⟨rfl, one, ⟨by omega, by rw [hl]; exact ho⟩, v0, v3, rfl⟩
  · walk_at "rm"
    refine Rm.ite (fun h => ?_) (fun h => ?_)
    · walk_at "rm"
      exact q (.prod nm p.1 p2.1) v _ ok5 ⟨rfl, two, trivial, v0, v3, rfl⟩
    · walk_at "rm"
      exact q (.map nm w p.1) v _ ok5 omap
  · walk_at "rm"
    refine Rm.ite (fun h => ?_) (fun h => ?_)
    · have h := of_decide_eq_true h
      walk_at "rm"
      exact q (.insr nm p.1 (0 - 1 - j)) (v + 1) _ ok5 ⟨rfl, one, ⟨by omega, by omega⟩, by omega, by omega, rfl⟩
    · walk_at "rm"
      exact q (.map nm w p.1) v _ ok5 omap
  · walk_at "rm"
    refine Rm.ite (fun h => ?_) (fun h => ?_)
    · have h := of_decide_eq_true h
      walk_at "rm"
      exact q (.stck nm [p.1, p2.1] (0 - 1 - j)) (v + 1) _ ok5 ⟨rfl, two, ⟨by show 1 ≤ 2; decide, by show 2 ≤ 3; decide, by omega, by omega⟩, by omega, by omega, rfl⟩
    · walk_at "rm"
      exact q (.map nm w p.1) v _ ok5 omap
  · walk_at "rm"
    exact q (.comb false nm w p.1 p2.1) v _ ok5 ⟨rfl, two, hw, v0, v3, rfl⟩
  · walk_at "rm"
    exact q (.comb false nm w p.1 p2.1) v _ ok5 ⟨rfl, two, hw, v0, v3, rfl⟩

end Q

set_option Elab.async false
set_option linter.all false
set_option maxRecDepth 100000
set_option maxHeartbeats 4000000
namespace Q
open PySem PySem.Spec PyProof.Rows L2 DL
theorem stem_ok : ∀ stem, stem ∈ stems → ∀ t, t ∈ alpha → nameB (stem ++ t) = true ∧ (stem ++ t == "newone") = false := by decide +kernel
theorem stem_nd : ∀ stem, stem ∈ stems → (alpha.map fun t => stem ++ t).Nodup := by decide +kernel
def rng (i n : Nat) : List D := (List.range' i n).map fun k : Nat => D.int (0 + (k : Int))
theorem rangeD_rng (n : Nat) : rangeD 0 n = rng 0 n := by
  unfold rangeD rng
  rw [List.range_eq_range']
theorem rng_cons {i n : Nat} {x : D} {r : List D} (h : x :: r = rng i n) : ∃ m, n = m + 1 ∧ x = .int (0 + (i : Int)) ∧ r = rng (i + 1) m := by
  cases n with
  | zero => cases h
  | succ m =>
    unfold rng at h
    rw [List.range'_succ, List.map_cons] at h
    injection h with h1 h2
    exact ⟨m, rfl, h1, h2⟩
theorem rng_nil {i n : Nat} (h : ([] : List D) = rng i n) : n = 0 := by
  cases n with
  | zero => rfl
  | succ m => unfold rng at h; rw [List.range'_succ, List.map_cons] at h; cases h
/-- a name that stands ahead -/
def Before (N : List Str) (j : Nat) (x : Str) : Prop := ∃ l, l < j ∧ N[l]? = some x
theorem Before.ne {N : List Str} {j : Nat} {x y : Str} (hN : N.Nodup) (h : Before N j x) (hy : N[j]? = some y) : x ≠ y := by
  obtain ⟨l, hl, hx⟩ := h
  obtain ⟨h1, e1⟩ := List.getElem?_eq_some_iff.mp hx
  obtain ⟨h2, e2⟩ := List.getElem?_eq_some_iff.mp hy
  have := List.pairwise_iff_getElem.mp hN l j h1 h2 hl
  rw [e1, e2] at this
  exact this
theorem Before.mono {N : List Str} {j k : Nat} {x : Str} (h : Before N j x) (hjk : j ≤ k) : Before N k x := by
  obtain ⟨l, hl, hx⟩ := h
  exact ⟨l, by omega, hx⟩
def AB (d : D) : Prop := d = .str "a" ∨ d = .str "b" ∨ d = .int 1
theorem ab_dim {d : D} (h : AB d) : dimB d = true := by
  rcases h with rfl | rfl | rfl <;> decide +kernel
theorem mem_putS {c' : List (Str × Int)} {k : Str} {v : Int} {p : Str × Int} (h : p ∈ putS c' k v) : p.1 = k ∨ ∃ p', p' ∈ c' ∧ p'.1 = p.1 := by
  unfold putS at h
  split at h
  · obtain ⟨p', hp', rfl⟩ := List.mem_map.mp h
    by_cases e : p'.1 = k
    · rw [if_pos e]; exact .inl e
    · rw [if_neg e]; exact .inr ⟨p', hp', rfl⟩
  · rcases List.mem_append.mp h with h | h
    · exact .inr ⟨p, h, rfl⟩
    · rw [List.mem_singleton] at h; subst h; exact .inl rfl
def CnOk (c' : List (Str × Int)) : Prop := ∀ p, p ∈ c' → ∃ v, lookS c' p.1 = some v ∧ 0 ≤ v ∧ v ≤ 3
theorem CnOk.put {c' : List (Str × Int)} (h : CnOk c') {k : Str} {v : Int} (v0 : 0 ≤ v) (v3 : v ≤ 3) : CnOk (putS c' k v) := fun p hp => by
  by_cases e : p.1 = k
  · rw [e, lookS_putS_same]
    exact ⟨v, rfl, v0, v3⟩
  · rw [lookS_putS_ne e]
    rcases mem_putS hp with e2 | ⟨p', hp', e2⟩
    · exact absurd e2 e
    · rw [← e2]; exact h p' hp'
theorem putS_ne (c' : List (Str × Int)) (k : Str) (v : Int) : putS c' k v ≠ [] := by
  unfold putS
  split
  · rename_i h
    intro e
    rw [List.map_eq_nil_iff] at e
    subst e
    simp at h
  · simp
theorem putS_has (c' : List (Str × Int)) (k : Str) (v : Int) : ∃ p, p ∈ putS c' k v ∧ p.1 = k := by
  unfold putS
  split
  · rename_i h
    obtain ⟨p, hp, hk⟩ := List.any_eq_true.mp h
    have hk := of_decide_eq_true hk
    exact ⟨(p.1, v), List.mem_map.mpr ⟨p, hp, if_pos hk⟩, hk⟩
  · exact ⟨(k, v), List.mem_append_right _ (List.mem_singleton.mpr rfl), rfl⟩
theorem tups_d {st : Stp} (h : strchB st = false) : tupsB st.d = true := by
  cases st with
  | comb k => cases k <;> simp [Stp.d, tupsB, tupsL]
  | trans n a o => simp [Stp.d, tupsB, tupsL, tupsL_ints]
  | stck n as ax => simp [Stp.d, tupsB, tupsL, tupsL_strs]
  | strch n a sh => cases h
  | _ => simp [Stp.d, tupsB, tupsL]
structure Task (ins : List (Str × List D)) (sts : List Stp) : Prop where
  i1 : 1 ≤ ins.length
  i3 : ins.length ≤ 3
  s5 : sts.length ≤ 5
  ish : ∀ p, p ∈ ins → p.2.length ≤ 2 ∧ ∀ d, d ∈ p.2 → AB d
  ind : (ins.map (·.1)).Nodup
  nn : ∀ x, x ∈ ins.map (·.1) ++ sts.map Stp.nm → nameB x = true ∧ x ≠ "newone"
  sok : ∀ st, st ∈ sts → st.Ok ∧ strchB st = false
  sfr : Fresh (ins.map (·.1)) sts
theorem fresh_app : ∀ {sts ex : List Stp} {kn : List Str}, Fresh kn sts → Fresh (kn ++ sts.map Stp.nm) ex → Fresh kn (sts ++ ex)
  | [], ex, kn, _, h => by rw [List.map_nil, List.append_nil] at h; exact h
  | st :: r, ex, kn, ⟨h1, h2, h3⟩, h => by
    refine ⟨h1, h2, fresh_app h3 ?_⟩
    rw [List.map_cons] at h
    rw [List.append_assoc]
    exact h

end Q

set_option Elab.async false
set_option linter.all false
set_option maxRecDepth 100000
set_option maxHeartbeats 4000000
namespace Q
open PySem PySem.Spec PyProof.Rows L2 DL
theorem side_ok {x : D} {s : FS} {Q : D → FS → Prop} (hx : AB x) (ok : s.Ok) (q : ∀ y s', s'.Ok → AB y → Q y s') : Rm (g_law_of [.feed, .lst [x, x, .int 1]]) s Q := by
  refine of_ok (by simp) (by simp) ok fun y s' hy ok' => q y s' ok' ?_
  simp only [List.mem_cons, List.not_mem_nil, or_false] at hy
  rcases hy with rfl | rfl | rfl
  · exact hx
  · exact hx
  · exact .inr (.inr rfl)
theorem atI_at {xs : List D} {i : Nat} {y : D} (h : xs[i]? = some y) : ixD (.lst xs) (.int (0 + (i : Int))) = some y := atI_ok h
theorem lst_all {P : D → Prop} {xs : List D} {ys : List D} (hl : ys.length = xs.length) (h : ∀ (i : Nat) (x y : D), xs[i]? = some x → ys[i]? = some y → P y) : ∀ y, y ∈ ys → P y := fun y hy => by
  obtain ⟨i, hi, rfl⟩ := List.getElem_of_mem hy
  exact h i (xs[i]'(by omega)) _ (List.getElem?_eq_getElem (by omega)) (List.getElem?_eq_getElem hi)
theorem front_task_ok {s : FS} {Q : D → FS → Prop} (ok : s.Ok) (q : ∀ ins sts s', s'.Ok → Task ins sts → Q (.tup [.lst (ins.map inpD), .lst (sts.map Stp.d)]) s') : Rm (g_law_front_task [.feed, .int 5]) s Q := by
  have hsz : sizeLine = 16777216 := rfl
  unfold g_law_front_task
  refine Rm.run rfl ?_
  unfold b_law_front_task
  show Rm (gSeq _ _ [.d .feed, .d (.int 5), .no, .no, .no, .no, .no, .no, .no, .no, .no, .no, .no, .no]) s _
  walk_at "rm"
  refine names_ok (by decide) (by decide) ok fun stem tails s1 ok1 hstem htails => ?_
  have hN : ∃ N : List Str, ((tails.take (3 + 5 : Int).toNat).map fun t => D.str (stem ++ t)) = N.map D.str ∧ N.length = 8 ∧ N.Nodup ∧ ∀ x, x ∈ N → nameB x = true ∧ x ≠ "newone" := by
    refine ⟨(tails.take 8).map fun t => stem ++ t, ?_, ?_, ?_, ?_⟩
    · rw [List.map_map]; rfl
    · rw [List.length_map, List.length_take, htails.length_eq, alpha_len]; rfl
    · rw [List.map_take]
      have h1 : (tails.map fun t => stem ++ t).Nodup := ((htails.map fun t => stem ++ t).nodup_iff).mpr (stem_nd stem hstem)
      exact h1.sublist (List.take_sublist _ _)
    · intro x hx
      obtain ⟨t, ht, rfl⟩ := List.mem_map.mp hx
      have := stem_ok stem hstem t (htails.mem_iff.mp (List.mem_of_mem_take ht))
      exact ⟨this.1, by simpa using this.2⟩
  obtain ⟨N, hNe, hNl, hNd, hNn⟩ := hN
  rw [hNe]
  have hat : ∀ i : Nat, i < 8 → ∃ x, N[i]? = some x ∧ (N.map D.str)[i]? = some (.str x) ∧ x ∈ N := fun i hi => ⟨N[i], List.getElem?_eq_getElem (by omega), by rw [List.getElem?_map, List.getElem?_eq_getElem (by omega)]; rfl, List.getElem_mem _⟩
  walk_at "rm"
  refine Rm.draw (by decide) (by decide) ok1 fun rk s2 ok2 rk0 rk1 => ?_
  walk_at "rm"
  refine ⟨by rw [rangeD_len]; omega, ?_⟩
  refine Rm.lcY (fun s => s.Ok) (fun _ y => AB y) ok2 (fun x s hx ok => ⟨_, rfl, ?_⟩) fun bs s3 hbl hbs ok3 => ?_
  · walk_at "rm"
    refine of_ok (by simp) (by simp) ok fun y s' hy ok' => ⟨?_, ok'⟩
    simp only [List.mem_cons, List.not_mem_nil, or_false] at hy
    rcases hy with rfl | rfl | rfl | rfl
    · exact .inl rfl
    · exact .inr (.inl rfl)
    · exact .inr (.inr rfl)
    · exact .inl rfl
  have hbs := lst_all hbl hbs
  rw [rangeD_len] at hbl
  walk_at "rm"
  show Rm (gPar3 5 6 7 _ _ _ [.d .feed, .d (.int 5), .d (.lst (N.map .str)), .d (.int rk), .d (.lst bs), .no, .no, .no, .no, .no, .no, .no, .no, .no]) _ _
  walk_at "rm"
  refine Rm.draw (by decide) (by decide) ok3 fun k1 s4 ok4 k10 k11 => ?_
  walk_at "rm"
  have hrng : ∃ m : Nat, (1 + k1).toNat = m ∧ 1 ≤ m ∧ m ≤ 3 := ⟨_, rfl, by omega, by omega⟩
  obtain ⟨m, hm, m1, m3⟩ := hrng
  rw [hm, rangeD_rng]
  refine Rm.loop (fun (xs : List D) (ρ : Sts) (s' : FS) => ∃ (i n : Nat) (ins : List (Str × List D)) (c' : List (Str × Int)) (e8 e9 : EV), xs = rng i n ∧ ins.length = i ∧ i + n = m ∧ (∀ p, p ∈ ins → p.2.length ≤ 2 ∧ ∀ d, d ∈ p.2 → AB d) ∧ (ins.map (·.1)).Nodup ∧ (∀ x, x ∈ ins.map (·.1) → Before N i x) ∧ CnOk c' ∧ c'.length ≤ i ∧ (0 < i → c' ≠ []) ∧ (∀ p, p ∈ c' → p.1 ∈ ins.map (·.1)) ∧
      ρ = [.d .feed, .d (.int 5), .d (.lst (N.map .str)), .d (.int rk), .d (.lst bs), .ol (ins.map inpD), .od (dcD c'), .ol [], e8, e9, .no, .no, .no, .no] ∧ s'.Ok) ?_ ?_ ?_
  · exact ⟨0, m, [], [], .no, .no, rfl, rfl, by omega, fun p h => by simp at h, List.Pairwise.nil, fun x h => by simp at h, fun p h => by simp at h, Nat.le_refl _, fun h => absurd h (by omega), fun p h => by simp at h, rfl, ok4⟩
  · rintro x r ρ s' ⟨i, n, ins, c', e8, e9, hx, hil, him, hsh, hnd, hbf, hcn, hcl, hcne, hck, rfl, ok'⟩
    obtain ⟨n, rfl, rfl, rfl⟩ := rng_cons hx
    obtain ⟨nm, hnm, hnmD, hnmN⟩ := hat i (by omega)
    refine ⟨_, rfl, ?_⟩
    show Rm (gSeq _ _ [.d .feed, .d (.int 5), .d (.lst (N.map .str)), .d (.int rk), .d (.lst bs), .ol (ins.map inpD), .od (dcD c'), .ol [], .d (.int (0 + (i : Int))), e9, .no, .no, .no, .no]) _ _
    walk_at "rm"
    refine ⟨by omega, ?_⟩
    refine Rm.lcY (fun s => s.Ok) (fun _ y => AB y) ok' (fun x s hx ok => ⟨_, rfl, ?_⟩) fun ys s5 hyl hys ok5 => ?_
    · walk_at "rm"
      exact side_ok (hbs x hx) ok fun y s' ok' hy => ⟨hy, ok'⟩
    have hys := lst_all hyl hys
    walk_at "rm"
    refine Rm.vmt rfl ?_
    walk_at "rm"
    refine Rm.lift (atI_at hnmD) ?_
    walk_at "rm"
    refine Rm.mtk rfl ?_
    refine Rm.app (by rw [List.length_map]; omega) ?_
    walk_at "rm"
    refine Rm.stdk rfl ?_
    walk_at "rm"
    refine Rm.lift (atI_at hnmD) ?_
    walk_at "rm"
    refine Rm.stdk2 rfl (by unfold dcD; rw [List.length_map]; omega) ?_
    refine Rm.lift (a := .inr nm) rfl ?_
    rw [putD_dc]
    refine ⟨i + 1, n, ins ++ [(nm, ys)], putS c' nm rk, .d (.int (0 + (i : Int))), .d (.tup ys), rfl, by rw [List.length_append, hil]; rfl, by omega, fun p hp => ?_, ?_, fun x hx => ?_, hcn.put rk0 (by omega), by have := putS_len c' nm rk; omega, fun _ => putS_ne _ _ _, fun p hp => ?_, ?_, ok5⟩
    · rcases List.mem_append.mp hp with hp | hp
      · exact hsh p hp
      · rw [List.mem_singleton] at hp
        subst hp
        exact ⟨by show ys.length ≤ 2; omega, hys⟩
    · rw [List.map_append, List.nodup_append]
      refine ⟨hnd, by simp, fun a ha b hb => ?_⟩
      have hb : b = nm := by simpa using hb
      subst hb
      exact (hbf a ha).ne hNd hnm
    · rw [List.map_append] at hx
      rcases List.mem_append.mp hx with hx | hx
      · exact (hbf x hx).mono (by omega)
      · have hx : x = nm := by simpa using hx
        subst hx
        exact ⟨i, by omega, hnm⟩
    · rw [List.map_append]
      rcases mem_putS hp with e | ⟨p', hp', e⟩
      · exact List.mem_append_right _ (by simp [e])
      · rw [← e]; exact List.mem_append_left _ (hck p' hp')
    · rw [List.map_append]
      rfl
  · rintro ρ s' ⟨i, n, ins, c', e8, e9, hx, hil, him, hsh, hnd, hbf, hcn, hcl, hcne, hck, rfl, ok'⟩
    have := rng_nil hx
    subst this
    walk_at "rm"
    have hi1 : 0 < i := by omega
    refine Rm.draw (by decide) (by decide) ok' fun k2 s6 ok6 k20 k21 => ?_
    walk_at "rm"
    obtain ⟨t, rfl⟩ := Int.eq_ofNat_of_zero_le k20
    show Rm (forS _ _ _ [.d .feed, .d (.int 5), .d (.lst (N.map .str)), .d (.int rk), .d (.lst bs), .d (.lst (ins.map inpD)), .od (dcD c'), .ol [], e8, e9, .d (.lst (kinds.map .str)), .no, .no, .no]) _ _
    rw [show ((t : Int)).toNat = t from rfl, rangeD_rng]
    refine Rm.loop (fun (xs : List D) (ρ : Sts) (s' : FS) => ∃ (j n : Nat) (sts : List Stp) (c' : List (Str × Int)) (e8 e11 e12 : EV), xs = rng j n ∧ sts.length = j ∧ j + n = t ∧ (∀ st, st ∈ sts → st.Ok ∧ strchB st = false) ∧ Fresh (ins.map (·.1)) sts ∧ (∀ x, x ∈ ins.map (·.1) ++ sts.map Stp.nm → Before N (3 + j) x) ∧ Cn c' ∧ c'.length ≤ 3 + j ∧ (∀ p, p ∈ c' → p.1 ∈ ins.map (·.1) ++ sts.map Stp.nm) ∧
        ρ = [.d .feed, .d (.int 5), .d (.lst (N.map .str)), .d (.int rk), .d (.lst bs), .d (.lst (ins.map inpD)), .od (dcD c'), .ol (sts.map Stp.d), e8, e9, .d (.lst (kinds.map .str)), e11, e12, .no] ∧ s'.Ok) ?_ ?_ ?_
    · exact ⟨0, t, [], c', e8, .no, .no, rfl, rfl, by omega, fun st h => by simp at h, trivial, fun x hx => by
        rw [List.map_nil, List.append_nil] at hx
        exact (hbf x hx).mono (by omega), ⟨hcne hi1, by omega, hcn⟩, by omega, fun p hp => List.mem_append_left _ (hck p hp), rfl, ok6⟩
    · rintro x r ρ s' ⟨j, n, sts, c', e8, e11, e12, hx, hjl, hjn, hso, hfr, hbf2, hcn2, hcl2, hck2, rfl, ok7⟩
      obtain ⟨n, rfl, rfl, rfl⟩ := rng_cons hx
      obtain ⟨nm, hnm, hnmD, hnmN⟩ := hat (3 + j) (by omega)
      refine ⟨_, rfl, ?_⟩
      show Rm (gSeq _ _ [.d .feed, .d (.int 5), .d (.lst (N.map .str)), .d (.int rk), .d (.lst bs), .d (.lst (ins.map inpD)), .od (dcD c'), .ol (sts.map Stp.d), .d (.int (0 + (j : Int))), e9, .d (.lst (kinds.map .str)), e11, e12, .no]) _ _
      walk_at "rm"
      refine Rm.lift (a := .str nm) ?_ ?_
      · have := atI_at hnmD
        rw [show (3 + (0 + (j : Int))) = 0 + ((3 + j : Nat) : Int) by omega]
        exact this
      walk_at "rm"
      refine front_step_ok hcn2 ok7 fun st v s8 ok8 so => ?_
      have hso2 : st.Ok := ⟨by rw [so.nm]; exact (hNn nm hnmN).1, fun x hx => by
        obtain ⟨p, hp, rfl⟩ := so.ops x hx
        obtain ⟨l, hl, e⟩ := hbf2 _ (hck2 p hp)
        exact (hNn _ (List.mem_of_getElem? e)).1, so.det⟩
      refine ⟨by simp [tupsB, tupsL, tups_d so.strch], ?_⟩
      walk_at "rm"
      refine Rm.vmt rfl ?_
      walk_at "rm"
      refine Rm.mtk rfl ?_
      refine Rm.app (by rw [List.length_map]; omega) ?_
      walk_at "rm"
      refine Rm.stdk rfl ?_
      walk_at "rm"
      refine Rm.lift (ix0 st) ?_
      walk_at "rm"
      refine Rm.stdk2 rfl (by unfold dcD; rw [List.length_map]; omega) ?_
      refine Rm.lift (a := .inr st.nm) rfl ?_
      rw [putD_dc]
      refine ⟨j + 1, n, sts ++ [st], putS c' st.nm v, .d (.int (0 + (j : Int))), .d st.d, .d (.int v), rfl, by rw [List.length_append, hjl]; rfl, by omega, fun z hz => ?_, ?_, fun x hx => ?_, ⟨putS_ne _ _ _, by have := putS_len c' st.nm v; omega, CnOk.put hcn2.ok so.v0 so.v3⟩, by have := putS_len c' st.nm v; omega, fun p hp => ?_, ?_, ok8⟩
      · rcases List.mem_append.mp hz with hz | hz
        · exact hso z hz
        · rw [List.mem_singleton] at hz; subst hz; exact ⟨hso2, so.strch⟩
      · refine fresh_app hfr ⟨?_, fun x hx => ?_, trivial⟩
        · rw [so.nm]
          exact fun hm => (hbf2 nm hm).ne hNd hnm rfl
        · obtain ⟨p, hp, rfl⟩ := so.ops x hx
          exact hck2 p hp
      · rw [List.map_append, ← List.append_assoc] at hx
        rcases List.mem_append.mp hx with hx | hx
        · exact (hbf2 x hx).mono (by omega)
        · have hx : x = st.nm := by simpa using hx
          subst hx
          rw [so.nm]
          exact ⟨3 + j, by omega, hnm⟩
      · rw [List.map_append, ← List.append_assoc]
        rcases mem_putS hp with e | ⟨p', hp', e⟩
        · exact List.mem_append_right _ (by simp [e])
        · rw [← e]; exact List.mem_append_left _ (hck2 p' hp')
      · rw [List.map_append]
        rfl
    · rintro ρ s' ⟨j, n, sts, c', e8, e11, e12, hx, hjl, hjn, hso, hfr, hbf2, hcn2, hcl2, hck2, rfl, ok7⟩
      walk_at "rm"
      refine q ins sts s' ok7 ⟨by omega, by omega, by omega, hsh, hnd, fun x hx => ?_, hso, hfr⟩
      obtain ⟨l, hl, e⟩ := hbf2 x hx
      exact hNn x (List.mem_of_getElem? e)

end Q

set_option Elab.async false
set_option linter.all false
set_option maxRecDepth 100000
set_option maxHeartbeats 4000000
namespace Q
open PySem PySem.Spec PyProof.Rows L2 DL
theorem sLets_mem {x : Str} : ∀ {sh : List D}, x ∈ sLets sh → D.str x ∈ sh
  | d :: r, h => by
    cases d with
    | str y =>
      rcases List.mem_cons.mp (show x ∈ y :: sLets r from h) with rfl | h
      · exact List.mem_cons_self
      · exact List.mem_cons_of_mem _ (sLets_mem h)
    | _ => exact List.mem_cons_of_mem _ (sLets_mem (show x ∈ sLets r from h))
theorem two_len {a b : Str} {l : List Str} (hn : l.Nodup) (h : ∀ x, x ∈ l → x = a ∨ x = b) : l.length ≤ 2 := by
  match l, hn, h with
  | [], _, _ => decide
  | [_], _, _ => show 1 ≤ 2; decide
  | [_, _], _, _ => show 2 ≤ 2; decide
  | x :: y :: z :: r, hn, h =>
    rw [List.nodup_cons, List.nodup_cons, List.nodup_cons] at hn
    obtain ⟨h1, h2, h3, _⟩ := hn
    have hx := h x (by simp)
    have hy := h y (by simp)
    have hz := h z (by simp)
    have hxy : x ≠ y := fun e => h1 (by rw [e]; simp)
    have hxz : x ≠ z := fun e => h1 (by rw [e]; simp)
    have hyz : y ≠ z := fun e => h2 (by rw [e]; simp)
    rcases hx with rfl | rfl <;> rcases hy with rfl | rfl <;> rcases hz with rfl | rfl <;> first | exact absurd rfl hxy | exact absurd rfl hxz | exact absurd rfl hyz
theorem lets_ab {shs : List (List D)} (h : ∀ sh, sh ∈ shs → ∀ d, d ∈ sh → AB d) : (letsOf shs).length ≤ 4 ∧ ∀ x, x ∈ letsOf shs → x.length = 1 := by
  have hm : ∀ x, x ∈ letsOf shs → x = "a" ∨ x = "b" := fun x hx => by
    unfold letsOf sortDd at hx
    have hx := (dd_mem x _).mp ((sortS_perm _).mem_iff.mp hx)
    obtain ⟨sh, hsh, hx⟩ := List.mem_flatMap.mp hx
    rcases h sh hsh _ (sLets_mem hx) with e | e | e
    · injection e with e; exact .inl e
    · injection e with e; exact .inr e
    · cases e
  have hn : (letsOf shs).Nodup := by
    unfold letsOf sortDd
    exact (sortS_perm _).nodup_iff.mpr (dd_nodup _)
  refine ⟨Nat.le_trans (two_len hn hm) (by decide), fun x hx => ?_⟩
  rcases hm x hx with rfl | rfl <;> decide
/-- the steps put behind -/
structure ExOk (kn : List Str) (ex : List Stp) : Prop where
  le : ex.length ≤ 1
  ok : ∀ st, st ∈ ex → st.nm = "newone" ∧ st.Ok ∧ (∀ x, x ∈ st.ops → x ∈ kn) ∧ ∀ d, d ∈ strchS st → AB d
def looks (b : Bool) : List (Str × List D) := if b = true then [("unequal", [.str "a", .int 1])] else []
theorem looks_eq (b : Bool) : eqD (.lst ((looks b).map chkD)) (.lst []) = some (.bl (looks b).isEmpty) := by
  have h : eqB (.lst ((looks b).map chkD)) (.lst []) = some (looks b).isEmpty := by
    cases b <;> decide +kernel
  unfold eqD
  rw [h]
  rfl
theorem ab_shp {sh : List D} (hl : sh.length ≤ 2) (h : ∀ d, d ∈ sh → AB d) : shpB sh = true := by
  unfold shpB
  rw [Bool.and_eq_true, decide_eq_true_iff, List.all_eq_true]
  exact ⟨by omega, fun d hd => ab_dim (h d hd)⟩
theorem pr_ok {ins : List (Str × List D)} {sts ex : List Stp} {b : Bool} (T : Task ins sts) (E : ExOk (ins.map (·.1) ++ sts.map Stp.nm) ex) : PrOk ins (sts ++ ex) (looks b) := by
  have i3 := T.i3
  have hL : ∀ sh, sh ∈ allShs ins (sts ++ ex) (looks b) → ∀ d, d ∈ sh → AB d := fun sh hsh d hd => by
    unfold allShs at hsh
    rcases List.mem_append.mp hsh with hsh | hsh
    · rcases List.mem_append.mp hsh with hsh | hsh
      · obtain ⟨p, hp, rfl⟩ := List.mem_map.mp hsh
        exact (T.ish p hp).2 d hd
      · obtain ⟨st, hst, rfl⟩ := List.mem_map.mp hsh
        obtain ⟨h1, h2⟩ := List.mem_filter.mp hst
        rcases List.mem_append.mp h1 with h1 | h1
        · rw [(T.sok st h1).2] at h2; cases h2
        · exact (E.ok st h1).2.2.2 d hd
    · obtain ⟨c, hc, rfl⟩ := List.mem_map.mp hsh
      unfold looks at hc
      split at hc
      · rw [List.mem_singleton] at hc
        subst hc
        rcases List.mem_cons.mp hd with rfl | hd
        · exact .inl rfl
        · rw [List.mem_singleton] at hd; subst hd; exact .inr (.inr rfl)
      · cases hc
  obtain ⟨hl4, hl1⟩ := lets_ab hL
  refine ⟨T.i1, by omega, fun p hp => (T.nn p.1 (List.mem_append_left _ (List.mem_map_of_mem hp))).1, fun p hp => ab_shp (T.ish p hp).1 (T.ish p hp).2, T.ind, ?_, fun st hst => ?_, fresh_app T.sfr ?_, ?_, fun c hc => ?_, hl4, hl1⟩
  · rw [List.length_append]
    have := T.s5
    have := E.le
    omega
  · rcases List.mem_append.mp hst with hst | hst
    · exact (T.sok st hst).1
    · exact (E.ok st hst).2.1
  · have hle := E.le
    match ex, E, hle with
    | [], _, _ => exact trivial
    | [st], E, _ =>
      obtain ⟨h1, h2, h3, _⟩ := E.ok st List.mem_cons_self
      exact ⟨fun hm => by rw [h1] at hm; exact (T.nn _ hm).2 rfl, h3, trivial⟩
  · unfold looks; split <;> simp
  · unfold looks at hc
    split at hc
    · rw [List.mem_singleton] at hc
      subst hc
      refine ⟨⟨by simp, fun d hd => ?_⟩, fun s => check_ok (.inr rfl) (by decide +kernel) (.inl ⟨1, rfl, by decide, by decide⟩) s⟩
      rcases List.mem_cons.mp hd with rfl | hd
      · exact .inl ⟨_, rfl⟩
      · rw [List.mem_singleton] at hd; subst hd; exact .inr ⟨_, rfl⟩
    · cases hc
/-- what the law asks, of a model -/
theorem ask_ok {ins : List (Str × List D)} {sts ex : List Stp} {b : Bool} (T : Task ins sts) (E : ExOk (ins.map (·.1) ++ sts.map Stp.nm) ex) {ρ : Env'} {i : Nat} {s : FS} {Q : D → FS → Prop} (hρ : ρ[i]?.join = some (.tup [.lst (ins.map inpD), .lst ((sts ++ ex).map Stp.d), .lst ((looks b).map chkD)])) (q : Q (.bl true) s) :
    Rm (dCall g_law_same (lCons (dCall g_takes_fronts (lCons (dCall g_law_program (lCons (dVar i) lNil)) lNil)) (lCons (dOp isnD (dCall g_law_counted (lCons (dVar i) lNil)) (dC .non)) lNil)) ρ) s Q := by
  have P := pr_ok (b := b) T E
  obtain ⟨lt, bd, hp⟩ := program_ok P s
  walk_at "rm"
  refine Rm.lift hρ ?_
  walk_at "rm"
  refine Rm.eq hp ?_
  walk_at "rm"
  refine Rm.eq (takes_ok P lt bd s) ?_
  walk_at "rm"
  refine Rm.lift hρ ?_
  walk_at "rm"
  refine Rm.eq (counted_ok P (looks_eq b) s) ?_
  walk_at "rm"
  refine Rm.lift both ?_
  walk_at "rm"
  refine Rm.eq (same_ok 8 (.bl _) s trivial) ?_
  exact q

end Q

set_option Elab.async false
set_option linter.all false
set_option maxRecDepth 100000
set_option maxHeartbeats 4000000
namespace Q
open PySem PySem.Spec PyProof.Rows L2 DL
/-- the rows of a task: the last one's name, all names -/
theorem last_ok {ins : List (Str × List D)} {sts : List Stp} (h : 1 ≤ ins.length) : ∃ x nm, ixD (.lst (ins.map inpD ++ sts.map Stp.d)) (.int (-1)) = some x ∧ ixD x (.int 0) = some (.str nm) ∧ nm ∈ ins.map (·.1) ++ sts.map Stp.nm := by
  have hne : 0 < (ins.map inpD ++ sts.map Stp.d).length := by rw [List.length_append, List.length_map]; omega
  have hg : (ins.map inpD ++ sts.map Stp.d)[(ins.map inpD ++ sts.map Stp.d).length - 1]? = some (ins.map inpD ++ sts.map Stp.d)[(ins.map inpD ++ sts.map Stp.d).length - 1] := List.getElem?_eq_getElem (by omega)
  have hm : (ins.map inpD ++ sts.map Stp.d)[(ins.map inpD ++ sts.map Stp.d).length - 1] ∈ ins.map inpD ++ sts.map Stp.d := List.getElem_mem _
  have hat : ixD (.lst (ins.map inpD ++ sts.map Stp.d)) (.int (-1)) = some (ins.map inpD ++ sts.map Stp.d)[(ins.map inpD ++ sts.map Stp.d).length - 1] := by
    show atI (ins.map inpD ++ sts.map Stp.d) (-1) = _
    unfold atI ixN
    rw [if_neg (by omega), if_pos (by omega)]
    show (ins.map inpD ++ sts.map Stp.d)[((-1 : Int) + ((ins.map inpD ++ sts.map Stp.d).length : Int)).toNat]? = _
    rw [show ((-1 : Int) + ((ins.map inpD ++ sts.map Stp.d).length : Int)).toNat = (ins.map inpD ++ sts.map Stp.d).length - 1 by omega]
    exact hg
  rcases List.mem_append.mp hm with h | h
  · obtain ⟨p, hp, e⟩ := List.mem_map.mp h
    exact ⟨_, p.1, hat, by rw [← e]; rfl, List.mem_append_left _ (List.mem_map_of_mem hp)⟩
  · obtain ⟨st, hst, e⟩ := List.mem_map.mp h
    exact ⟨_, st.nm, hat, by rw [← e]; exact ix0 st, List.mem_append_right _ (List.mem_map_of_mem hst)⟩
theorem names_eq (ins : List (Str × List D)) (sts : List Stp) : (ins.map inpD ++ sts.map Stp.d).map (fun y => (ixD y (.int 0)).getD .non) = (ins.map (·.1) ++ sts.map Stp.nm).map D.str := by
  rw [List.map_append, List.map_append, List.map_map, List.map_map, List.map_map, List.map_map]
  congr 1
  refine List.map_congr_left fun st _ => ?_
  show (ixD st.d (.int 0)).getD .non = _
  rw [ix0]
  rfl
theorem mulL0 (x : D) : mulLD (.lst [x]) (.int 0) = some (.lst []) := by
  unfold mulLD
  dsimp only
  rw [if_pos ⟨by decide, by decide, Nat.zero_le _⟩]
  rfl
theorem mulL1 (x : D) : mulLD (.lst [x]) (.int 1) = some (.lst [x]) := by
  unfold mulLD
  dsimp only
  rw [if_pos ⟨by decide, by decide, by show 1 ≤ 16777216; decide⟩]
  rfl
theorem new_nm : nameB "newone" = true := by decide +kernel
theorem f_nm : nameB "f" = true := by decide +kernel
theorem law_ok (ns : List Int) (hl : ns.length ≤ 63) : ∃ ρ' s', b_law (.no :: .d .feed :: List.replicate 9 .no) (fs1 ns) = .ok (.rt (.bl true), ρ') s' := by
  have hsz : sizeLine = 16777216 := rfl
  have key : Rm (b_law (.no :: .d .feed :: List.replicate 9 .no)) (fs1 ns) (fun p _ => p.1 = .rt (.bl true)) := by
    unfold b_law
    show Rm (gSeq _ _ [.no, .d .feed, .no, .no, .no, .no, .no, .no, .no, .no, .no]) _ _
    walk_at "rm"
    refine Rm.loop (fun xs ρ s' => ∃ (e2 e3 e4 e5 e6 e7 e8 e9 e10 : EV), ρ = [.no, .d .feed, e2, e3, e4, e5, e6, e7, e8, e9, e10] ∧ s'.Ok) ⟨_, _, _, _, _, _, _, _, _, rfl, fs1_ok ns⟩ ?_ ?_
    · rintro x xs ρ s' ⟨e2, e3, e4, e5, e6, e7, e8, e9, e10, rfl, ok⟩
      refine ⟨_, rfl, ?_⟩
      show Rm (gSeq _ _ [.no, .d .feed, .d x, e3, e4, e5, e6, e7, e8, e9, e10]) _ _
      walk_at "rm"
      refine front_task_ok ok fun ins sts s1 ok1 T => ?_
      have i1 := T.i1
      have i3 := T.i3
      have s5 := T.s5
      obtain ⟨row, nm, hl1, hl2, hnm⟩ := last_ok (sts := sts) i1
      walk_at "rm"
      show Rm (gPar 5 6 _ _ [.no, .d .feed, .d x, .d (.lst (ins.map inpD)), .d (.lst (sts.map Stp.d)), e5, e6, e7, e8, e9, e10]) _ _
      walk_at "rm"
      · rw [List.length_map, List.length_map]; omega
      walk_at "rm"
      refine Rm.lift hl1 ?_
      walk_at "rm"
      refine Rm.lift hl2 ?_
      walk_at "rm"
      · rw [List.length_map, List.length_map]; omega
      walk_at "rm"
      refine ⟨by rw [List.length_append, List.length_map, List.length_map]; omega, ?_⟩
      refine Rm.eq (lcE_map (fun y => (ixD y (.int 0)).getD .non) fun y hy => ⟨_, rfl, Rm.det ?_⟩) ?_
      · walk_at "rm"
        rcases List.mem_append.mp hy with h | h
        · obtain ⟨p, hp, rfl⟩ := List.mem_map.mp h
          exact Rm.lift (a := .str p.1) rfl ⟨rfl, rfl⟩
        · obtain ⟨st, hst, rfl⟩ := List.mem_map.mp h
          exact Rm.lift (ix0 st) ⟨by rw [ix0]; rfl, rfl⟩
      rw [names_eq]
      walk_at "rm"
      refine Rm.draw (by decide) (by decide) ok1 fun d1 s2 ok2 d10 d11 => ?_
      walk_at "rm"
      refine Rm.draw (by decide) (by decide) ok2 fun d2 s3 ok3 d20 d21 => ?_
      walk_at "rm"
      · simp only [List.length_cons, List.length_nil, List.length_append]; omega
      walk_at "rm"
      have hnl : 0 < ((ins.map (·.1) ++ sts.map Stp.nm).map D.str).length := by rw [List.length_map, List.length_append, List.length_map]; omega
      have hnb : ((ins.map (·.1) ++ sts.map Stp.nm).map D.str).length < 1073741824 := by rw [List.length_map, List.length_append, List.length_map, List.length_map]; omega
      refine of_ok hnl hnb ok3 fun y3 s4 hy3 ok4 => ?_
      obtain ⟨o3, ho3, rfl⟩ := List.mem_map.mp hy3
      walk_at "rm"
      · simp only [List.length_cons, List.length_nil, List.length_append]; omega
      walk_at "rm"
      refine order_draw ok4 fun o s6 ok6 hol hop => ?_
      walk_at "rm"
      refine Rm.draw (by decide) (by decide) ok6 fun d4 s7 ok7 d40 d41 => ?_
      walk_at "rm"
      refine of_ok hnl hnb ok7 fun y5 s8 hy5 ok8 => ?_
      obtain ⟨o5, ho5, rfl⟩ := List.mem_map.mp hy5
      walk_at "rm"
      · simp only [List.length_cons, List.length_nil, List.length_append]; omega
      walk_at "rm"
      refine Rm.draw (by decide) (by decide) ok8 fun d6 s9 ok9 d60 d61 => ?_
      walk_at "rm"
      generalize decide (d6 = 0) = b
      refine Rm.lift (a := .lst ((looks b).map chkD)) ?_ ?_
      · cases b
        · exact mulL0 _
        · exact mulL1 _
      walk_at "rm"
      have ex1 : ∀ {st : Stp}, st.nm = "newone" → (∀ z, z ∈ st.ops → z ∈ ins.map (·.1) ++ sts.map Stp.nm) → st.Det → (∀ d, d ∈ strchS st → AB d) → ExOk (ins.map (·.1) ++ sts.map Stp.nm) [st] := fun {st} h1 h2 h3 h4 => ⟨by simp, fun z hz => by
        rw [List.mem_singleton] at hz
        subst hz
        exact ⟨h1, ⟨by rw [h1]; exact new_nm, fun x hx => (T.nn x (h2 x hx)).1, h3⟩, h2, h4⟩⟩
      have one : ∀ z, z ∈ [nm] → z ∈ ins.map (·.1) ++ sts.map Stp.nm := fun z hz => by rw [List.mem_singleton] at hz; subst hz; exact hnm
      have two : ∀ {a : Str}, a ∈ ins.map (·.1) ++ sts.map Stp.nm → ∀ z, z ∈ [nm, a] → z ∈ ins.map (·.1) ++ sts.map Stp.nm := fun {a} ha z hz => by
        rcases List.mem_cons.mp hz with rfl | hz
        · exact hnm
        · rw [List.mem_singleton] at hz; subst hz; exact ha
      have no : ∀ d : D, d ∈ ([] : List D) → AB d := fun d h => by simp at h
      refine of_ok (by simp) (by simp) ok9 fun y s10 hy ok10 => ?_
      have hex : ∃ ex : List Stp, y = .lst (ex.map Stp.d) ∧ ExOk (ins.map (·.1) ++ sts.map Stp.nm) ex := by
        simp only [List.mem_append, List.mem_cons, List.not_mem_nil, or_false] at hy
        rcases hy with (((h | h | h) | h | h) | h | h) | h | h | h | h
        · exact ⟨[], h, by simp, fun st h => by simp at h⟩
        · exact ⟨[.red "newone" "f" nm (d1 - 4) true], h, ex1 rfl one ⟨f_nm, by omega, by omega⟩ no⟩
        · exact ⟨[.sqz "newone" nm], h, ex1 rfl one trivial no⟩
        · exact ⟨[.insr "newone" nm (d2 - 4)], h, ex1 rfl one ⟨by omega, by omega⟩ no⟩
        · exact ⟨[.strch "newone" nm [.int 1, .int 1, .int 1, .int 1]], h, ex1 rfl one (by show shpB _ = true; decide +kernel) fun d hd => by
            have hd : d = .int 1 := by simpa [strchS] using hd
            exact .inr (.inr hd)⟩
        · exact ⟨[.comb false "newone" "f" nm o3], h, ex1 rfl (two ho3) f_nm no⟩
        · exact ⟨[.prod "newone" nm nm], h, ex1 rfl (two hnm) trivial no⟩
        · exact ⟨[.trans "newone" nm o], h, ex1 rfl one ⟨hol, hop⟩ no⟩
        · exact ⟨[.sel "newone" nm (0 - 1) 0], h, ex1 rfl one ⟨by decide, .inl rfl⟩ no⟩
        · exact ⟨[.remv "newone" nm (d4 - 4)], h, ex1 rfl one ⟨by omega, by omega⟩ no⟩
        · exact ⟨[.stck "newone" [nm, o5] (0 - 1)], h, ex1 rfl (two ho5) ⟨by show 1 ≤ 2; decide, by show 2 ≤ 3; decide, by decide, by decide⟩ no⟩
      clear hy
      obtain ⟨ex, rfl, E⟩ := hex
      have P := pr_ok (b := b) T E
      have hel := E.le
      obtain ⟨lt, bd, hp⟩ := program_ok P s10
      walk_at "rm"
      · rw [List.length_map, List.length_map]; omega
      rw [← List.map_append]
      walk_at "rm"
      refine Rm.eq hp ?_
      walk_at "rm"
      refine Rm.eq (takes_ok P lt bd s10) ?_
      walk_at "rm"
      refine Rm.eq (counted_ok P (looks_eq b) s10) ?_
      walk_at "rm"
      refine Rm.lift both ?_
      walk_at "rm"
      refine Rm.eq (same_ok 8 (.bl _) s10 trivial) ?_
      walk_at "rm"
      exact ⟨_, _, _, _, _, _, _, _, _, rfl, ok10⟩
    · rintro ρ s' ⟨e2, e3, e4, e5, e6, e7, e8, e9, e10, rfl, ok⟩
      walk_at "rm"
      rfl
  obtain ⟨p, s', e, h⟩ := key.out
  obtain ⟨f, ρ'⟩ := p
  have h : f = .rt (.bl true) := h
  subst h
  exact ⟨ρ', s', e⟩

end Q

set_option Elab.async false
set_option linter.all false
set_option maxRecDepth 100000
set_option maxHeartbeats 0
namespace Q
open DL L2 PyProof.Rows PySem PySem.Spec
theorem all_mk {l : PySem.W.OpenLaw} {w : World} {K : PySem.W.Frag} {h : Heap} {mg : Str → Option Value} {fa : Addr}
    (X : K.In h) (G : h.Ns mainGlobals mg) (hfa : mg "law" = some (.ref fa))
    {f_law_signs : Addr} {od_law_signs an_law_signs : Option Addr} {sl_law_signs : Array (Option Value)} {oc_law_signs kV_law_signs dc_law_signs pm_law_signs cd_law_signs ct_law_signs : Value}
    {f_law_draw : Addr} {od_law_draw an_law_draw : Option Addr} {sl_law_draw : Array (Option Value)} {oc_law_draw kV_law_draw dc_law_draw pm_law_draw cd_law_draw ct_law_draw : Value}
    {f_law_mixed : Addr} {od_law_mixed an_law_mixed : Option Addr} {sl_law_mixed : Array (Option Value)} {oc_law_mixed kV_law_mixed dc_law_mixed pm_law_mixed cd_law_mixed ct_law_mixed : Value}
    {f_law_of : Addr} {od_law_of an_law_of : Option Addr} {sl_law_of : Array (Option Value)} {oc_law_of kV_law_of dc_law_of pm_law_of cd_law_of ct_law_of : Value}
    {f_law_names : Addr} {od_law_names an_law_names : Option Addr} {sl_law_names : Array (Option Value)} {oc_law_names kV_law_names dc_law_names pm_law_names cd_law_names ct_law_names : Value}
    {f_law_word : Addr} {od_law_word an_law_word : Option Addr} {sl_law_word : Array (Option Value)} {oc_law_word kV_law_word dc_law_word pm_law_word cd_law_word ct_law_word : Value}
    {f_law_mixed_order : Addr} {od_law_mixed_order an_law_mixed_order : Option Addr} {sl_law_mixed_order : Array (Option Value)} {oc_law_mixed_order kV_law_mixed_order dc_law_mixed_order pm_law_mixed_order cd_law_mixed_order ct_law_mixed_order : Value}
    {f_law_front_step : Addr} {od_law_front_step an_law_front_step : Option Addr} {sl_law_front_step : Array (Option Value)} {oc_law_front_step kV_law_front_step dc_law_front_step pm_law_front_step cd_law_front_step ct_law_front_step : Value}
    {f_law_front_task : Addr} {od_law_front_task an_law_front_task : Option Addr} {sl_law_front_task : Array (Option Value)} {oc_law_front_task kV_law_front_task dc_law_front_task pm_law_front_task cd_law_front_task ct_law_front_task : Value}
    {f_law_order : Addr} {od_law_order an_law_order : Option Addr} {sl_law_order : Array (Option Value)} {oc_law_order kV_law_order dc_law_order pm_law_order cd_law_order ct_law_order : Value}
    {f_law_operands : Addr} {od_law_operands an_law_operands : Option Addr} {sl_law_operands : Array (Option Value)} {oc_law_operands kV_law_operands dc_law_operands pm_law_operands cd_law_operands ct_law_operands : Value}
    {f_law_counted : Addr} {od_law_counted an_law_counted : Option Addr} {sl_law_counted : Array (Option Value)} {oc_law_counted kV_law_counted dc_law_counted pm_law_counted cd_law_counted ct_law_counted : Value}
    {f_is_listed : Addr} {od_is_listed an_is_listed : Option Addr} {sl_is_listed : Array (Option Value)} {oc_is_listed kV_is_listed dc_is_listed pm_is_listed cd_is_listed ct_is_listed : Value}
    {f_is_name : Addr} {od_is_name an_is_name : Option Addr} {sl_is_name : Array (Option Value)} {oc_is_name kV_is_name dc_is_name pm_is_name cd_is_name ct_is_name : Value}
    {f_is_letter : Addr} {od_is_letter an_is_letter : Option Addr} {sl_is_letter : Array (Option Value)} {oc_is_letter kV_is_letter dc_is_letter pm_is_letter cd_is_letter ct_is_letter : Value}
    {f_is_number : Addr} {od_is_number an_is_number : Option Addr} {sl_is_number : Array (Option Value)} {oc_is_number kV_is_number dc_is_number pm_is_number cd_is_number ct_is_number : Value}
    {f_is_between : Addr} {od_is_between an_is_between : Option Addr} {sl_is_between : Array (Option Value)} {oc_is_between kV_is_between dc_is_between pm_is_between cd_is_between ct_is_between : Value}
    {f_is_dimension : Addr} {od_is_dimension an_is_dimension : Option Addr} {sl_is_dimension : Array (Option Value)} {oc_is_dimension kV_is_dimension dc_is_dimension pm_is_dimension cd_is_dimension ct_is_dimension : Value}
    {f_is_shape : Addr} {od_is_shape an_is_shape : Option Addr} {sl_is_shape : Array (Option Value)} {oc_is_shape kV_is_shape dc_is_shape pm_is_shape cd_is_shape ct_is_shape : Value}
    {f_check_inputs : Addr} {od_check_inputs an_check_inputs : Option Addr} {sl_check_inputs : Array (Option Value)} {oc_check_inputs kV_check_inputs dc_check_inputs pm_check_inputs cd_check_inputs ct_check_inputs : Value}
    {f_is_check : Addr} {od_is_check an_is_check : Option Addr} {sl_is_check : Array (Option Value)} {oc_is_check kV_is_check dc_is_check pm_is_check cd_is_check ct_is_check : Value}
    {f_check_checks : Addr} {od_check_checks an_check_checks : Option Addr} {sl_check_checks : Array (Option Value)} {oc_check_checks kV_check_checks dc_check_checks pm_check_checks cd_check_checks ct_check_checks : Value}
    {f_operands : Addr} {od_operands an_operands : Option Addr} {sl_operands : Array (Option Value)} {oc_operands kV_operands dc_operands pm_operands cd_operands ct_operands : Value}
    {f_is_axis : Addr} {od_is_axis an_is_axis : Option Addr} {sl_is_axis : Array (Option Value)} {oc_is_axis kV_is_axis dc_is_axis pm_is_axis cd_is_axis ct_is_axis : Value}
    {f_is_order : Addr} {od_is_order an_is_order : Option Addr} {sl_is_order : Array (Option Value)} {oc_is_order kV_is_order dc_is_order pm_is_order cd_is_order ct_is_order : Value}
    {f_has_details : Addr} {od_has_details an_has_details : Option Addr} {sl_has_details : Array (Option Value)} {oc_has_details kV_has_details dc_has_details pm_has_details cd_has_details ct_has_details : Value}
    {f_is_step : Addr} {od_is_step an_is_step : Option Addr} {sl_is_step : Array (Option Value)} {oc_is_step kV_is_step dc_is_step pm_is_step cd_is_step ct_is_step : Value}
    {f_check_steps : Addr} {od_check_steps an_check_steps : Option Addr} {sl_check_steps : Array (Option Value)} {oc_check_steps kV_check_steps dc_check_steps pm_check_steps cd_check_steps ct_check_steps : Value}
    {f_letters_of : Addr} {od_letters_of an_letters_of : Option Addr} {sl_letters_of : Array (Option Value)} {oc_letters_of kV_letters_of dc_letters_of pm_letters_of cd_letters_of ct_letters_of : Value}
    {f_bound_of : Addr} {od_bound_of an_bound_of : Option Addr} {sl_bound_of : Array (Option Value)} {oc_bound_of kV_bound_of dc_bound_of pm_bound_of cd_bound_of ct_bound_of : Value}
    {f_Program___init__ : Addr} {od_Program___init__ an_Program___init__ : Option Addr} {sl_Program___init__ : Array (Option Value)} {oc_Program___init__ dc_Program___init__ pm_Program___init__ cd_Program___init__ ct_Program___init__ : Value}
    {f_law_program : Addr} {od_law_program an_law_program : Option Addr} {sl_law_program : Array (Option Value)} {oc_law_program kV_law_program dc_law_program pm_law_program cd_law_program ct_law_program : Value}
    {f_Program_is_steady : Addr} {od_Program_is_steady an_Program_is_steady : Option Addr} {sl_Program_is_steady : Array (Option Value)} {oc_Program_is_steady kV_Program_is_steady dc_Program_is_steady pm_Program_is_steady cd_Program_is_steady ct_Program_is_steady : Value}
    {f_Program_inputs : Addr} {od_Program_inputs an_Program_inputs : Option Addr} {sl_Program_inputs : Array (Option Value)} {oc_Program_inputs kV_Program_inputs dc_Program_inputs pm_Program_inputs cd_Program_inputs ct_Program_inputs : Value}
    {f_Program_steps : Addr} {od_Program_steps an_Program_steps : Option Addr} {sl_Program_steps : Array (Option Value)} {oc_Program_steps kV_Program_steps dc_Program_steps pm_Program_steps cd_Program_steps ct_Program_steps : Value}
    {f_told_behind : Addr} {od_told_behind an_told_behind : Option Addr} {sl_told_behind : Array (Option Value)} {oc_told_behind kV_told_behind dc_told_behind pm_told_behind cd_told_behind ct_told_behind : Value}
    {f_takes_fronts : Addr} {od_takes_fronts an_takes_fronts : Option Addr} {sl_takes_fronts : Array (Option Value)} {oc_takes_fronts kV_takes_fronts dc_takes_fronts pm_takes_fronts cd_takes_fronts ct_takes_fronts : Value}
    {f_law_same : Addr} {od_law_same an_law_same : Option Addr} {sl_law_same : Array (Option Value)} {oc_law_same kV_law_same dc_law_same pm_law_same cd_law_same ct_law_same : Value}
    {f_law_feed : Addr} {od_law_feed an_law_feed : Option Addr} {sl_law_feed : Array (Option Value)} {oc_law_feed kV_law_feed dc_law_feed pm_law_feed cd_law_feed ct_law_feed : Value}
    {f_law : Addr} {od_law an_law : Option Addr} {sl_law : Array (Option Value)} {oc_law kV_law dc_law pm_law cd_law ct_law : Value}
    {C_Program : Addr}
    (n_Program : PySem.W.nsIn K mainGlobals "Program" = some (some (.ref C_Program)))
    (pg_Program : PySem.W.plainGet K C_Program Str.empty = true)
    (hd_Program : PySem.W.hasDictIn K C_Program = true)
    (po_Program : PySem.W.plainOver K C_Program = true)
    (sa_Program : PySem.W.findIn K (.ref C_Program) "__setattr__" = some (some (.builtin "object.__setattr__")))
    (a_law_signs : PySem.W.nsIn K mainGlobals "_law_signs" = some (some (.ref f_law_signs)))
    (l_law_signs : K.lookup f_law_signs = some ⟨oc_law_signs, od_law_signs, .func (PySem.W.fnOf "_law_signs" "_law_signs" (defArgs s_law_signs) (defBody s_law_signs) (defScope s_law_signs) .none kV_law_signs dc_law_signs pm_law_signs an_law_signs cd_law_signs ct_law_signs), sl_law_signs⟩)
    (c_law_signs : PySem.W.codeIn K cd_law_signs "_law_signs" = true)
    (k_law_signs : PySem.W.keepIn K (.ref f_law_signs) = true)
    (a_law_draw : PySem.W.nsIn K mainGlobals "_law_draw" = some (some (.ref f_law_draw)))
    (l_law_draw : K.lookup f_law_draw = some ⟨oc_law_draw, od_law_draw, .func (PySem.W.fnOf "_law_draw" "_law_draw" (defArgs s_law_draw) (defBody s_law_draw) (defScope s_law_draw) .none kV_law_draw dc_law_draw pm_law_draw an_law_draw cd_law_draw ct_law_draw), sl_law_draw⟩)
    (c_law_draw : PySem.W.codeIn K cd_law_draw "_law_draw" = true)
    (k_law_draw : PySem.W.keepIn K (.ref f_law_draw) = true)
    (a_law_mixed : PySem.W.nsIn K mainGlobals "_law_mixed" = some (some (.ref f_law_mixed)))
    (l_law_mixed : K.lookup f_law_mixed = some ⟨oc_law_mixed, od_law_mixed, .func (PySem.W.fnOf "_law_mixed" "_law_mixed" (defArgs s_law_mixed) (defBody s_law_mixed) (defScope s_law_mixed) .none kV_law_mixed dc_law_mixed pm_law_mixed an_law_mixed cd_law_mixed ct_law_mixed), sl_law_mixed⟩)
    (c_law_mixed : PySem.W.codeIn K cd_law_mixed "_law_mixed" = true)
    (k_law_mixed : PySem.W.keepIn K (.ref f_law_mixed) = true)
    (a_law_of : PySem.W.nsIn K mainGlobals "_law_of" = some (some (.ref f_law_of)))
    (l_law_of : K.lookup f_law_of = some ⟨oc_law_of, od_law_of, .func (PySem.W.fnOf "_law_of" "_law_of" (defArgs s_law_of) (defBody s_law_of) (defScope s_law_of) .none kV_law_of dc_law_of pm_law_of an_law_of cd_law_of ct_law_of), sl_law_of⟩)
    (c_law_of : PySem.W.codeIn K cd_law_of "_law_of" = true)
    (k_law_of : PySem.W.keepIn K (.ref f_law_of) = true)
    (a_law_names : PySem.W.nsIn K mainGlobals "_law_names" = some (some (.ref f_law_names)))
    (l_law_names : K.lookup f_law_names = some ⟨oc_law_names, od_law_names, .func (PySem.W.fnOf "_law_names" "_law_names" (defArgs s_law_names) (defBody s_law_names) (defScope s_law_names) .none kV_law_names dc_law_names pm_law_names an_law_names cd_law_names ct_law_names), sl_law_names⟩)
    (c_law_names : PySem.W.codeIn K cd_law_names "_law_names" = true)
    (k_law_names : PySem.W.keepIn K (.ref f_law_names) = true)
    (a_law_word : PySem.W.nsIn K mainGlobals "_law_word" = some (some (.ref f_law_word)))
    (l_law_word : K.lookup f_law_word = some ⟨oc_law_word, od_law_word, .func (PySem.W.fnOf "_law_word" "_law_word" (defArgs s_law_word) (defBody s_law_word) (defScope s_law_word) .none kV_law_word dc_law_word pm_law_word an_law_word cd_law_word ct_law_word), sl_law_word⟩)
    (c_law_word : PySem.W.codeIn K cd_law_word "_law_word" = true)
    (k_law_word : PySem.W.keepIn K (.ref f_law_word) = true)
    (a_law_mixed_order : PySem.W.nsIn K mainGlobals "_law_mixed_order" = some (some (.ref f_law_mixed_order)))
    (l_law_mixed_order : K.lookup f_law_mixed_order = some ⟨oc_law_mixed_order, od_law_mixed_order, .func (PySem.W.fnOf "_law_mixed_order" "_law_mixed_order" (defArgs s_law_mixed_order) (defBody s_law_mixed_order) (defScope s_law_mixed_order) .none kV_law_mixed_order dc_law_mixed_order pm_law_mixed_order an_law_mixed_order cd_law_mixed_order ct_law_mixed_order), sl_law_mixed_order⟩)
    (c_law_mixed_order : PySem.W.codeIn K cd_law_mixed_order "_law_mixed_order" = true)
    (k_law_mixed_order : PySem.W.keepIn K (.ref f_law_mixed_order) = true)
    (a_law_front_step : PySem.W.nsIn K mainGlobals "_law_front_step" = some (some (.ref f_law_front_step)))
    (l_law_front_step : K.lookup f_law_front_step = some ⟨oc_law_front_step, od_law_front_step, .func (PySem.W.fnOf "_law_front_step" "_law_front_step" (defArgs s_law_front_step) (defBody s_law_front_step) (defScope s_law_front_step) .none kV_law_front_step dc_law_front_step pm_law_front_step an_law_front_step cd_law_front_step ct_law_front_step), sl_law_front_step⟩)
    (c_law_front_step : PySem.W.codeIn K cd_law_front_step "_law_front_step" = true)
    (k_law_front_step : PySem.W.keepIn K (.ref f_law_front_step) = true)
    (a_law_front_task : PySem.W.nsIn K mainGlobals "_law_front_task" = some (some (.ref f_law_front_task)))
    (l_law_front_task : K.lookup f_law_front_task = some ⟨oc_law_front_task, od_law_front_task, .func (PySem.W.fnOf "_law_front_task" "_law_front_task" (defArgs s_law_front_task) (defBody s_law_front_task) (defScope s_law_front_task) .none kV_law_front_task dc_law_front_task pm_law_front_task an_law_front_task cd_law_front_task ct_law_front_task), sl_law_front_task⟩)
    (c_law_front_task : PySem.W.codeIn K cd_law_front_task "_law_front_task" = true)
    (k_law_front_task : PySem.W.keepIn K (.ref f_law_front_task) = true)
    (a_law_order : PySem.W.nsIn K mainGlobals "_law_order" = some (some (.ref f_law_order)))
    (l_law_order : K.lookup f_law_order = some ⟨oc_law_order, od_law_order, .func (PySem.W.fnOf "_law_order" "_law_order" (defArgs s_law_order) (defBody s_law_order) (defScope s_law_order) .none kV_law_order dc_law_order pm_law_order an_law_order cd_law_order ct_law_order), sl_law_order⟩)
    (c_law_order : PySem.W.codeIn K cd_law_order "_law_order" = true)
    (k_law_order : PySem.W.keepIn K (.ref f_law_order) = true)
    (a_law_operands : PySem.W.nsIn K mainGlobals "_law_operands" = some (some (.ref f_law_operands)))
    (l_law_operands : K.lookup f_law_operands = some ⟨oc_law_operands, od_law_operands, .func (PySem.W.fnOf "_law_operands" "_law_operands" (defArgs s_law_operands) (defBody s_law_operands) (defScope s_law_operands) .none kV_law_operands dc_law_operands pm_law_operands an_law_operands cd_law_operands ct_law_operands), sl_law_operands⟩)
    (c_law_operands : PySem.W.codeIn K cd_law_operands "_law_operands" = true)
    (k_law_operands : PySem.W.keepIn K (.ref f_law_operands) = true)
    (a_law_counted : PySem.W.nsIn K mainGlobals "_law_counted" = some (some (.ref f_law_counted)))
    (l_law_counted : K.lookup f_law_counted = some ⟨oc_law_counted, od_law_counted, .func (PySem.W.fnOf "_law_counted" "_law_counted" (defArgs s_law_counted) (defBody s_law_counted) (defScope s_law_counted) .none kV_law_counted dc_law_counted pm_law_counted an_law_counted cd_law_counted ct_law_counted), sl_law_counted⟩)
    (c_law_counted : PySem.W.codeIn K cd_law_counted "_law_counted" = true)
    (k_law_counted : PySem.W.keepIn K (.ref f_law_counted) = true)
    (a_is_listed : PySem.W.nsIn K mainGlobals "is_listed" = some (some (.ref f_is_listed)))
    (l_is_listed : K.lookup f_is_listed = some ⟨oc_is_listed, od_is_listed, .func (PySem.W.fnOf "is_listed" "is_listed" (defArgs s_is_listed) (defBody s_is_listed) (defScope s_is_listed) .none kV_is_listed dc_is_listed pm_is_listed an_is_listed cd_is_listed ct_is_listed), sl_is_listed⟩)
    (c_is_listed : PySem.W.codeIn K cd_is_listed "is_listed" = true)
    (k_is_listed : PySem.W.keepIn K (.ref f_is_listed) = true)
    (a_is_name : PySem.W.nsIn K mainGlobals "is_name" = some (some (.ref f_is_name)))
    (l_is_name : K.lookup f_is_name = some ⟨oc_is_name, od_is_name, .func (PySem.W.fnOf "is_name" "is_name" (defArgs s_is_name) (defBody s_is_name) (defScope s_is_name) .none kV_is_name dc_is_name pm_is_name an_is_name cd_is_name ct_is_name), sl_is_name⟩)
    (c_is_name : PySem.W.codeIn K cd_is_name "is_name" = true)
    (k_is_name : PySem.W.keepIn K (.ref f_is_name) = true)
    (a_is_letter : PySem.W.nsIn K mainGlobals "is_letter" = some (some (.ref f_is_letter)))
    (l_is_letter : K.lookup f_is_letter = some ⟨oc_is_letter, od_is_letter, .func (PySem.W.fnOf "is_letter" "is_letter" (defArgs s_is_letter) (defBody s_is_letter) (defScope s_is_letter) .none kV_is_letter dc_is_letter pm_is_letter an_is_letter cd_is_letter ct_is_letter), sl_is_letter⟩)
    (c_is_letter : PySem.W.codeIn K cd_is_letter "is_letter" = true)
    (k_is_letter : PySem.W.keepIn K (.ref f_is_letter) = true)
    (a_is_number : PySem.W.nsIn K mainGlobals "is_number" = some (some (.ref f_is_number)))
    (l_is_number : K.lookup f_is_number = some ⟨oc_is_number, od_is_number, .func (PySem.W.fnOf "is_number" "is_number" (defArgs s_is_number) (defBody s_is_number) (defScope s_is_number) .none kV_is_number dc_is_number pm_is_number an_is_number cd_is_number ct_is_number), sl_is_number⟩)
    (c_is_number : PySem.W.codeIn K cd_is_number "is_number" = true)
    (k_is_number : PySem.W.keepIn K (.ref f_is_number) = true)
    (a_is_between : PySem.W.nsIn K mainGlobals "is_between" = some (some (.ref f_is_between)))
    (l_is_between : K.lookup f_is_between = some ⟨oc_is_between, od_is_between, .func (PySem.W.fnOf "is_between" "is_between" (defArgs s_is_between) (defBody s_is_between) (defScope s_is_between) .none kV_is_between dc_is_between pm_is_between an_is_between cd_is_between ct_is_between), sl_is_between⟩)
    (c_is_between : PySem.W.codeIn K cd_is_between "is_between" = true)
    (k_is_between : PySem.W.keepIn K (.ref f_is_between) = true)
    (a_is_dimension : PySem.W.nsIn K mainGlobals "is_dimension" = some (some (.ref f_is_dimension)))
    (l_is_dimension : K.lookup f_is_dimension = some ⟨oc_is_dimension, od_is_dimension, .func (PySem.W.fnOf "is_dimension" "is_dimension" (defArgs s_is_dimension) (defBody s_is_dimension) (defScope s_is_dimension) .none kV_is_dimension dc_is_dimension pm_is_dimension an_is_dimension cd_is_dimension ct_is_dimension), sl_is_dimension⟩)
    (c_is_dimension : PySem.W.codeIn K cd_is_dimension "is_dimension" = true)
    (k_is_dimension : PySem.W.keepIn K (.ref f_is_dimension) = true)
    (a_is_shape : PySem.W.nsIn K mainGlobals "is_shape" = some (some (.ref f_is_shape)))
    (l_is_shape : K.lookup f_is_shape = some ⟨oc_is_shape, od_is_shape, .func (PySem.W.fnOf "is_shape" "is_shape" (defArgs s_is_shape) (defBody s_is_shape) (defScope s_is_shape) .none kV_is_shape dc_is_shape pm_is_shape an_is_shape cd_is_shape ct_is_shape), sl_is_shape⟩)
    (c_is_shape : PySem.W.codeIn K cd_is_shape "is_shape" = true)
    (k_is_shape : PySem.W.keepIn K (.ref f_is_shape) = true)
    (a_check_inputs : PySem.W.nsIn K mainGlobals "check_inputs" = some (some (.ref f_check_inputs)))
    (l_check_inputs : K.lookup f_check_inputs = some ⟨oc_check_inputs, od_check_inputs, .func (PySem.W.fnOf "check_inputs" "check_inputs" (defArgs s_check_inputs) (defBody s_check_inputs) (defScope s_check_inputs) .none kV_check_inputs dc_check_inputs pm_check_inputs an_check_inputs cd_check_inputs ct_check_inputs), sl_check_inputs⟩)
    (c_check_inputs : PySem.W.codeIn K cd_check_inputs "check_inputs" = true)
    (k_check_inputs : PySem.W.keepIn K (.ref f_check_inputs) = true)
    (a_is_check : PySem.W.nsIn K mainGlobals "is_check" = some (some (.ref f_is_check)))
    (l_is_check : K.lookup f_is_check = some ⟨oc_is_check, od_is_check, .func (PySem.W.fnOf "is_check" "is_check" (defArgs s_is_check) (defBody s_is_check) (defScope s_is_check) .none kV_is_check dc_is_check pm_is_check an_is_check cd_is_check ct_is_check), sl_is_check⟩)
    (c_is_check : PySem.W.codeIn K cd_is_check "is_check" = true)
    (k_is_check : PySem.W.keepIn K (.ref f_is_check) = true)
    (a_check_checks : PySem.W.nsIn K mainGlobals "check_checks" = some (some (.ref f_check_checks)))
    (l_check_checks : K.lookup f_check_checks = some ⟨oc_check_checks, od_check_checks, .func (PySem.W.fnOf "check_checks" "check_checks" (defArgs s_check_checks) (defBody s_check_checks) (defScope s_check_checks) .none kV_check_checks dc_check_checks pm_check_checks an_check_checks cd_check_checks ct_check_checks), sl_check_checks⟩)
    (c_check_checks : PySem.W.codeIn K cd_check_checks "check_checks" = true)
    (k_check_checks : PySem.W.keepIn K (.ref f_check_checks) = true)
    (a_operands : PySem.W.nsIn K mainGlobals "operands" = some (some (.ref f_operands)))
    (l_operands : K.lookup f_operands = some ⟨oc_operands, od_operands, .func (PySem.W.fnOf "operands" "operands" (defArgs s_operands) (defBody s_operands) (defScope s_operands) .none kV_operands dc_operands pm_operands an_operands cd_operands ct_operands), sl_operands⟩)
    (c_operands : PySem.W.codeIn K cd_operands "operands" = true)
    (k_operands : PySem.W.keepIn K (.ref f_operands) = true)
    (a_is_axis : PySem.W.nsIn K mainGlobals "is_axis" = some (some (.ref f_is_axis)))
    (l_is_axis : K.lookup f_is_axis = some ⟨oc_is_axis, od_is_axis, .func (PySem.W.fnOf "is_axis" "is_axis" (defArgs s_is_axis) (defBody s_is_axis) (defScope s_is_axis) .none kV_is_axis dc_is_axis pm_is_axis an_is_axis cd_is_axis ct_is_axis), sl_is_axis⟩)
    (c_is_axis : PySem.W.codeIn K cd_is_axis "is_axis" = true)
    (k_is_axis : PySem.W.keepIn K (.ref f_is_axis) = true)
    (a_is_order : PySem.W.nsIn K mainGlobals "is_order" = some (some (.ref f_is_order)))
    (l_is_order : K.lookup f_is_order = some ⟨oc_is_order, od_is_order, .func (PySem.W.fnOf "is_order" "is_order" (defArgs s_is_order) (defBody s_is_order) (defScope s_is_order) .none kV_is_order dc_is_order pm_is_order an_is_order cd_is_order ct_is_order), sl_is_order⟩)
    (c_is_order : PySem.W.codeIn K cd_is_order "is_order" = true)
    (k_is_order : PySem.W.keepIn K (.ref f_is_order) = true)
    (a_has_details : PySem.W.nsIn K mainGlobals "has_details" = some (some (.ref f_has_details)))
    (l_has_details : K.lookup f_has_details = some ⟨oc_has_details, od_has_details, .func (PySem.W.fnOf "has_details" "has_details" (defArgs s_has_details) (defBody s_has_details) (defScope s_has_details) .none kV_has_details dc_has_details pm_has_details an_has_details cd_has_details ct_has_details), sl_has_details⟩)
    (c_has_details : PySem.W.codeIn K cd_has_details "has_details" = true)
    (k_has_details : PySem.W.keepIn K (.ref f_has_details) = true)
    (a_is_step : PySem.W.nsIn K mainGlobals "is_step" = some (some (.ref f_is_step)))
    (l_is_step : K.lookup f_is_step = some ⟨oc_is_step, od_is_step, .func (PySem.W.fnOf "is_step" "is_step" (defArgs s_is_step) (defBody s_is_step) (defScope s_is_step) .none kV_is_step dc_is_step pm_is_step an_is_step cd_is_step ct_is_step), sl_is_step⟩)
    (c_is_step : PySem.W.codeIn K cd_is_step "is_step" = true)
    (k_is_step : PySem.W.keepIn K (.ref f_is_step) = true)
    (a_check_steps : PySem.W.nsIn K mainGlobals "check_steps" = some (some (.ref f_check_steps)))
    (l_check_steps : K.lookup f_check_steps = some ⟨oc_check_steps, od_check_steps, .func (PySem.W.fnOf "check_steps" "check_steps" (defArgs s_check_steps) (defBody s_check_steps) (defScope s_check_steps) .none kV_check_steps dc_check_steps pm_check_steps an_check_steps cd_check_steps ct_check_steps), sl_check_steps⟩)
    (c_check_steps : PySem.W.codeIn K cd_check_steps "check_steps" = true)
    (k_check_steps : PySem.W.keepIn K (.ref f_check_steps) = true)
    (a_letters_of : PySem.W.nsIn K mainGlobals "letters_of" = some (some (.ref f_letters_of)))
    (l_letters_of : K.lookup f_letters_of = some ⟨oc_letters_of, od_letters_of, .func (PySem.W.fnOf "letters_of" "letters_of" (defArgs s_letters_of) (defBody s_letters_of) (defScope s_letters_of) .none kV_letters_of dc_letters_of pm_letters_of an_letters_of cd_letters_of ct_letters_of), sl_letters_of⟩)
    (c_letters_of : PySem.W.codeIn K cd_letters_of "letters_of" = true)
    (k_letters_of : PySem.W.keepIn K (.ref f_letters_of) = true)
    (a_bound_of : PySem.W.nsIn K mainGlobals "bound_of" = some (some (.ref f_bound_of)))
    (l_bound_of : K.lookup f_bound_of = some ⟨oc_bound_of, od_bound_of, .func (PySem.W.fnOf "bound_of" "bound_of" (defArgs s_bound_of) (defBody s_bound_of) (defScope s_bound_of) .none kV_bound_of dc_bound_of pm_bound_of an_bound_of cd_bound_of ct_bound_of), sl_bound_of⟩)
    (c_bound_of : PySem.W.codeIn K cd_bound_of "bound_of" = true)
    (k_bound_of : PySem.W.keepIn K (.ref f_bound_of) = true)
    (fm_Program___init__ : PySem.W.findIn K (.ref C_Program) "__init__" = some (some (.ref f_Program___init__)))
    (ff_Program___init__ : PySem.W.isFn K (.ref f_Program___init__) = true)
    (mk_Program : PySem.W.makesIn K C_Program = true)
    (kc_Program : PySem.W.keepIn K (.ref C_Program) = true)
    {u0_Program___init__ : Addr}
    {w0_Program___init__ : Addr}
    {T_Program___init__ : Addr} {tc_Program___init__ : Value} {td_Program___init__ : Option Addr} {tn_Program___init__ : Nat} {ts_Program___init__ : Array (Option Value)}
    {K_Program___init__ : Addr}
    (l_Program___init__ : K.lookup f_Program___init__ = some ⟨oc_Program___init__, od_Program___init__, .func (PySem.W.fnOf "__init__" "Program.__init__" (defArgs s_Program___init__) (defBody s_Program___init__) (defScope s_Program___init__) (.ref T_Program___init__) (.ref K_Program___init__) dc_Program___init__ pm_Program___init__ an_Program___init__ cd_Program___init__ ct_Program___init__), sl_Program___init__⟩)
    (c_Program___init__ : PySem.W.codeIn K cd_Program___init__ "Program.__init__" = true)
    (k_Program___init__ : PySem.W.keepIn K (.ref f_Program___init__) = true)
    (dl_Program___init__ : K.lookup T_Program___init__ = some ⟨tc_Program___init__, td_Program___init__, .seq #[.ref u0_Program___init__] tn_Program___init__, ts_Program___init__⟩)
    (kl0_Program___init__ : PySem.W.nsIn K K_Program___init__ "checks" = some (some (.ref w0_Program___init__)))
    (a_law_program : PySem.W.nsIn K mainGlobals "_law_program" = some (some (.ref f_law_program)))
    (l_law_program : K.lookup f_law_program = some ⟨oc_law_program, od_law_program, .func (PySem.W.fnOf "_law_program" "_law_program" (defArgs s_law_program) (defBody s_law_program) (defScope s_law_program) .none kV_law_program dc_law_program pm_law_program an_law_program cd_law_program ct_law_program), sl_law_program⟩)
    (c_law_program : PySem.W.codeIn K cd_law_program "_law_program" = true)
    (k_law_program : PySem.W.keepIn K (.ref f_law_program) = true)
    {p_Program_is_steady : Addr} {r_Program_is_steady : List Value}
    (fp_Program_is_steady : PySem.W.findIn K (.ref C_Program) "is_steady" = some (some (.ref p_Program_is_steady)))
    (gp_Program_is_steady : PySem.W.specialIn K (.ref p_Program_is_steady) "__get__" = some (some (.builtin "property.__get__")))
    (tp_Program_is_steady : PySem.W.takesIn K (.ref p_Program_is_steady) = some true)
    (rp_Program_is_steady : PySem.W.recIn K p_Program_is_steady "property" = some (.ref f_Program_is_steady :: r_Program_is_steady))
    (l_Program_is_steady : K.lookup f_Program_is_steady = some ⟨oc_Program_is_steady, od_Program_is_steady, .func (PySem.W.fnOf "is_steady" "Program.is_steady" (defArgs s_Program_is_steady) (defBody s_Program_is_steady) (defScope s_Program_is_steady) .none kV_Program_is_steady dc_Program_is_steady pm_Program_is_steady an_Program_is_steady cd_Program_is_steady ct_Program_is_steady), sl_Program_is_steady⟩)
    (c_Program_is_steady : PySem.W.codeIn K cd_Program_is_steady "Program.is_steady" = true)
    (k_Program_is_steady : PySem.W.keepIn K (.ref f_Program_is_steady) = true)
    (fm_Program_inputs : PySem.W.findIn K (.ref C_Program) "inputs" = some (some (.ref f_Program_inputs)))
    (ff_Program_inputs : PySem.W.isFn K (.ref f_Program_inputs) = true)
    (l_Program_inputs : K.lookup f_Program_inputs = some ⟨oc_Program_inputs, od_Program_inputs, .func (PySem.W.fnOf "inputs" "Program.inputs" (defArgs s_Program_inputs) (defBody s_Program_inputs) (defScope s_Program_inputs) .none kV_Program_inputs dc_Program_inputs pm_Program_inputs an_Program_inputs cd_Program_inputs ct_Program_inputs), sl_Program_inputs⟩)
    (c_Program_inputs : PySem.W.codeIn K cd_Program_inputs "Program.inputs" = true)
    (k_Program_inputs : PySem.W.keepIn K (.ref f_Program_inputs) = true)
    (fm_Program_steps : PySem.W.findIn K (.ref C_Program) "steps" = some (some (.ref f_Program_steps)))
    (ff_Program_steps : PySem.W.isFn K (.ref f_Program_steps) = true)
    (l_Program_steps : K.lookup f_Program_steps = some ⟨oc_Program_steps, od_Program_steps, .func (PySem.W.fnOf "steps" "Program.steps" (defArgs s_Program_steps) (defBody s_Program_steps) (defScope s_Program_steps) .none kV_Program_steps dc_Program_steps pm_Program_steps an_Program_steps cd_Program_steps ct_Program_steps), sl_Program_steps⟩)
    (c_Program_steps : PySem.W.codeIn K cd_Program_steps "Program.steps" = true)
    (k_Program_steps : PySem.W.keepIn K (.ref f_Program_steps) = true)
    (a_told_behind : PySem.W.nsIn K mainGlobals "told_behind" = some (some (.ref f_told_behind)))
    (l_told_behind : K.lookup f_told_behind = some ⟨oc_told_behind, od_told_behind, .func (PySem.W.fnOf "told_behind" "told_behind" (defArgs s_told_behind) (defBody s_told_behind) (defScope s_told_behind) .none kV_told_behind dc_told_behind pm_told_behind an_told_behind cd_told_behind ct_told_behind), sl_told_behind⟩)
    (c_told_behind : PySem.W.codeIn K cd_told_behind "told_behind" = true)
    (k_told_behind : PySem.W.keepIn K (.ref f_told_behind) = true)
    (a_takes_fronts : PySem.W.nsIn K mainGlobals "takes_fronts" = some (some (.ref f_takes_fronts)))
    (l_takes_fronts : K.lookup f_takes_fronts = some ⟨oc_takes_fronts, od_takes_fronts, .func (PySem.W.fnOf "takes_fronts" "takes_fronts" (defArgs s_takes_fronts) (defBody s_takes_fronts) (defScope s_takes_fronts) .none kV_takes_fronts dc_takes_fronts pm_takes_fronts an_takes_fronts cd_takes_fronts ct_takes_fronts), sl_takes_fronts⟩)
    (c_takes_fronts : PySem.W.codeIn K cd_takes_fronts "takes_fronts" = true)
    (k_takes_fronts : PySem.W.keepIn K (.ref f_takes_fronts) = true)
    (a_law_same : PySem.W.nsIn K mainGlobals "_law_same" = some (some (.ref f_law_same)))
    (l_law_same : K.lookup f_law_same = some ⟨oc_law_same, od_law_same, .func (PySem.W.fnOf "_law_same" "_law_same" (defArgs s_law_same) (defBody s_law_same) (defScope s_law_same) .none kV_law_same dc_law_same pm_law_same an_law_same cd_law_same ct_law_same), sl_law_same⟩)
    (c_law_same : PySem.W.codeIn K cd_law_same "_law_same" = true)
    (k_law_same : PySem.W.keepIn K (.ref f_law_same) = true)
    (a_law_feed : PySem.W.nsIn K mainGlobals "_law_feed" = some (some (.ref f_law_feed)))
    (l_law_feed : K.lookup f_law_feed = some ⟨oc_law_feed, od_law_feed, .func (PySem.W.fnOf "_law_feed" "_law_feed" (defArgs s_law_feed) (defBody s_law_feed) (defScope s_law_feed) .none kV_law_feed dc_law_feed pm_law_feed an_law_feed cd_law_feed ct_law_feed), sl_law_feed⟩)
    (c_law_feed : PySem.W.codeIn K cd_law_feed "_law_feed" = true)
    (k_law_feed : PySem.W.keepIn K (.ref f_law_feed) = true)
    (a_law : PySem.W.nsIn K mainGlobals "law" = some (some (.ref f_law)))
    (l_law : K.lookup f_law = some ⟨oc_law, od_law, .func (PySem.W.fnOf "law" "law" (defArgs s_law) (defBody s_law) (defScope s_law) .none kV_law dc_law pm_law an_law cd_law ct_law), sl_law⟩)
    (c_law : PySem.W.codeIn K cd_law "law" = true)
    (k_law : PySem.W.keepIn K (.ref f_law) = true)
    (z_all : PySem.W.nsIn K mainGlobals "all" = some none)
    (z_any : PySem.W.nsIn K mainGlobals "any" = some none)
    (z_bool : PySem.W.nsIn K mainGlobals "bool" = some none)
    (z_dict : PySem.W.nsIn K mainGlobals "dict" = some none)
    (z_enumerate : PySem.W.nsIn K mainGlobals "enumerate" = some none)
    (z_int : PySem.W.nsIn K mainGlobals "int" = some none)
    (z_isinstance : PySem.W.nsIn K mainGlobals "isinstance" = some none)
    (z_len : PySem.W.nsIn K mainGlobals "len" = some none)
    (z_list : PySem.W.nsIn K mainGlobals "list" = some none)
    (z_max : PySem.W.nsIn K mainGlobals "max" = some none)
    (z_range : PySem.W.nsIn K mainGlobals "range" = some none)
    (z_repr : PySem.W.nsIn K mainGlobals "repr" = some none)
    (z_sorted : PySem.W.nsIn K mainGlobals "sorted" = some none)
    (z_str : PySem.W.nsIn K mainGlobals "str" = some none)
    (z_tuple : PySem.W.nsIn K mainGlobals "tuple" = some none)
    {t_MOST_CHECKED : Tok}
    (y_MOST_CHECKED : PySem.W.nsIn K mainGlobals "MOST_CHECKED" = some (some (.int 3 t_MOST_CHECKED)))
    {t_MOST_CHECKS : Tok}
    (y_MOST_CHECKS : PySem.W.nsIn K mainGlobals "MOST_CHECKS" = some (some (.int 8 t_MOST_CHECKS)))
    {t_MOST_DIMENSIONS : Tok}
    (y_MOST_DIMENSIONS : PySem.W.nsIn K mainGlobals "MOST_DIMENSIONS" = some (some (.int 4 t_MOST_DIMENSIONS)))
    {t_MOST_INPUTS : Tok}
    (y_MOST_INPUTS : PySem.W.nsIn K mainGlobals "MOST_INPUTS" = some (some (.int 4 t_MOST_INPUTS)))
    {t_MOST_NAME : Tok}
    (y_MOST_NAME : PySem.W.nsIn K mainGlobals "MOST_NAME" = some (some (.int 8 t_MOST_NAME)))
    {t_MOST_NUMBER : Tok}
    (y_MOST_NUMBER : PySem.W.nsIn K mainGlobals "MOST_NUMBER" = some (some (.int 3 t_MOST_NUMBER)))
    {t_MOST_STACKED : Tok}
    (y_MOST_STACKED : PySem.W.nsIn K mainGlobals "MOST_STACKED" = some (some (.int 3 t_MOST_STACKED)))
    {t_SMALL : Tok}
    (y_SMALL : PySem.W.nsIn K mainGlobals "SMALL" = some (some (.str "abcdefghijklmnopqrstuvwxyz" t_SMALL)))
    {x_INDEXES : Addr} {xd_INDEXES : Option Addr} {xn_INDEXES : Nat} {xs_INDEXES : Array (Option Value)} {x0_INDEXES : Tok} {x1_INDEXES : Tok} {x2_INDEXES : Tok} {x3_INDEXES : Tok}
    (y_INDEXES : PySem.W.nsIn K mainGlobals "INDEXES" = some (some (.ref x_INDEXES)))
    (xl_INDEXES : K.lookup x_INDEXES = some ⟨.type "tuple", xd_INDEXES, .seq #[.int 0 x0_INDEXES, .int 1 x1_INDEXES, .int (-1) x2_INDEXES, .int (-2) x3_INDEXES] xn_INDEXES, xs_INDEXES⟩)
    {x_RELATIONS : Addr} {xd_RELATIONS : Option Addr} {xn_RELATIONS : Nat} {xs_RELATIONS : Array (Option Value)} {x0_RELATIONS : Tok} {x1_RELATIONS : Tok}
    (y_RELATIONS : PySem.W.nsIn K mainGlobals "RELATIONS" = some (some (.ref x_RELATIONS)))
    (xl_RELATIONS : K.lookup x_RELATIONS = some ⟨.type "tuple", xd_RELATIONS, .seq #[.str "equal" x0_RELATIONS, .str "unequal" x1_RELATIONS] xn_RELATIONS, xs_RELATIONS⟩)
    {x_UNSTEADY : Addr} {xd_UNSTEADY : Option Addr} {xn_UNSTEADY : Nat} {xs_UNSTEADY : Array (Option Value)} {x0_UNSTEADY : Tok} {x1_UNSTEADY : Tok}
    (y_UNSTEADY : PySem.W.nsIn K mainGlobals "UNSTEADY" = some (some (.ref x_UNSTEADY)))
    (xl_UNSTEADY : K.lookup x_UNSTEADY = some ⟨.type "tuple", xd_UNSTEADY, .seq #[.str "squeeze" x0_UNSTEADY, .str "select" x1_UNSTEADY] xn_UNSTEADY, xs_UNSTEADY⟩)
    {x_WORDED : Addr} {xd_WORDED : Option Addr} {xn_WORDED : Nat} {xs_WORDED : Array (Option Value)} {x0_WORDED : Tok} {x1_WORDED : Tok} {x2_WORDED : Tok} {x3_WORDED : Tok}
    (y_WORDED : PySem.W.nsIn K mainGlobals "WORDED" = some (some (.ref x_WORDED)))
    (xl_WORDED : K.lookup x_WORDED = some ⟨.type "tuple", xd_WORDED, .seq #[.str "map" x0_WORDED, .str "combine" x1_WORDED, .str "into" x2_WORDED, .str "reduce" x3_WORDED] xn_WORDED, xs_WORDED⟩)
    {x_KINDS : Addr} {es_KINDS : Array DictEntry} {xn_KINDS : Nat}
    (y_KINDS : PySem.W.nsIn K mainGlobals "KINDS" = some (some (.ref x_KINDS)))
    (xl_KINDS : K.lookup x_KINDS = some ⟨.type "dict", none, .dict es_KINDS xn_KINDS, #[]⟩)
    (xk_KINDS : PySem.W.KeysLit w.params es_KINDS.toList) (xe_KINDS : es_KINDS.toList.map entI = ktab_KINDS.map some) (xo_KINDS : (x_KINDS == sysModules) = false)
    {ct_Program_LETTERS : Tok}
    (cr_Program_LETTERS : PySem.W.readsIn K C_Program (.type "type") = true)
    (cg_Program_LETTERS : PySem.W.specialIn K (.ref C_Program) "__getattribute__" = some (some (.builtin "type.__getattribute__")))
    (cv_Program_LETTERS : PySem.W.findCls K (.ref C_Program) (.type "type") "LETTERS" = some (.val (.int 4 ct_Program_LETTERS)))
    {ct_Program_STEPS : Tok}
    (cr_Program_STEPS : PySem.W.readsIn K C_Program (.type "type") = true)
    (cg_Program_STEPS : PySem.W.specialIn K (.ref C_Program) "__getattribute__" = some (some (.builtin "type.__getattribute__")))
    (cv_Program_STEPS : PySem.W.findCls K (.ref C_Program) (.type "type") "STEPS" = some (.val (.int 10 ct_Program_STEPS)))
    (nf_Program_own_bound : PySem.W.findIn K (.ref C_Program) "own_bound" = some none)
    (nf_Program_own_checks : PySem.W.findIn K (.ref C_Program) "own_checks" = some none)
    (nf_Program_own_inputs : PySem.W.findIn K (.ref C_Program) "own_inputs" = some none)
    (nf_Program_own_letters : PySem.W.findIn K (.ref C_Program) "own_letters" = some none)
    (nf_Program_own_names : PySem.W.findIn K (.ref C_Program) "own_names" = some none)
    (nf_Program_own_steady : PySem.W.findIn K (.ref C_Program) "own_steady" = some none)
    (nf_Program_own_steps : PySem.W.findIn K (.ref C_Program) "own_steps" = some none)
    : ∃ fd : FuncData, (∀ (s : Shared) (v : Value), BindsTo s fd ⟨[v], []⟩ [("_law_script", v)]) ∧ ∀ base : Heap, K.In base → base.Ns mainGlobals mg → FnOk l.prog w K mg base CX0 11 fa fd ["_law_script"] (spLaw K) := by
  have e := hfa.symm.trans (PySem.W.mg_of X G a_law)
  cases e
  have cls_Program : Cls K C_Program := ⟨pg_Program, hd_Program, po_Program, sa_Program⟩
  have T : Txt K w mg := by
    refine ⟨?_, ?_, ?_, ?_, ?_, ?_, ?_, ?_, ?_, ?_, ?_, ?_, ?_, ?_, ?_, ?_, ?_, ?_, ?_, ?_, ?_, ?_, ?_, ?_, ?_, ?_, ?_, ?_, ?_, ?_, ?_, ?_, ?_, ?_, ?_, ?_, ?_⟩
    · exact PySem.W.mg_none_of X G z_all
    · exact PySem.W.mg_none_of X G z_any
    · exact PySem.W.mg_none_of X G z_bool
    · exact PySem.W.mg_none_of X G z_dict
    · exact PySem.W.mg_none_of X G z_enumerate
    · exact PySem.W.mg_none_of X G z_int
    · exact PySem.W.mg_none_of X G z_isinstance
    · exact PySem.W.mg_none_of X G z_len
    · exact PySem.W.mg_none_of X G z_list
    · exact PySem.W.mg_none_of X G z_max
    · exact PySem.W.mg_none_of X G z_range
    · exact PySem.W.mg_none_of X G z_repr
    · exact PySem.W.mg_none_of X G z_sorted
    · exact PySem.W.mg_none_of X G z_str
    · exact PySem.W.mg_none_of X G z_tuple
    · exact ⟨_, PySem.W.mg_of X G y_MOST_CHECKED⟩
    · exact ⟨_, PySem.W.mg_of X G y_MOST_CHECKS⟩
    · exact ⟨_, PySem.W.mg_of X G y_MOST_DIMENSIONS⟩
    · exact ⟨_, PySem.W.mg_of X G y_MOST_INPUTS⟩
    · exact ⟨_, PySem.W.mg_of X G y_MOST_NAME⟩
    · exact ⟨_, PySem.W.mg_of X G y_MOST_NUMBER⟩
    · exact ⟨_, PySem.W.mg_of X G y_MOST_STACKED⟩
    · exact ⟨_, PySem.W.mg_of X G y_SMALL⟩
    · exact tupC_mk (vs := [(V.int 0), (V.int 1), (V.int (-1)), (V.int (-2))]) X G y_INDEXES xl_INDEXES (.cons ⟨_, rfl⟩ (.cons ⟨_, rfl⟩ (.cons ⟨_, rfl⟩ (.cons ⟨_, rfl⟩ .nil)))) (fun _ _ => (.cons (.int _) (.cons (.int _) (.cons (.int _) (.cons (.int _) .nil))))) (by simp)
    · exact tupC_mk (vs := [(V.str "equal"), (V.str "unequal")]) X G y_RELATIONS xl_RELATIONS (.cons ⟨_, rfl⟩ (.cons ⟨_, rfl⟩ .nil)) (fun _ _ => (.cons (.str _) (.cons (.str _) .nil))) (by simp)
    · exact tupC_mk (vs := [(V.str "squeeze"), (V.str "select")]) X G y_UNSTEADY xl_UNSTEADY (.cons ⟨_, rfl⟩ (.cons ⟨_, rfl⟩ .nil)) (fun _ _ => (.cons (.str _) (.cons (.str _) .nil))) (by simp)
    · exact tupC_mk (vs := [(V.str "map"), (V.str "combine"), (V.str "into"), (V.str "reduce")]) X G y_WORDED xl_WORDED (.cons ⟨_, rfl⟩ (.cons ⟨_, rfl⟩ (.cons ⟨_, rfl⟩ (.cons ⟨_, rfl⟩ .nil)))) (fun _ _ => (.cons (.str _) (.cons (.str _) (.cons (.str _) (.cons (.str _) .nil))))) (by simp)
    · exact ⟨x_KINDS, es_KINDS, xn_KINDS, PySem.W.mg_of X G y_KINDS, ⟨xl_KINDS, xk_KINDS, xo_KINDS⟩, xe_KINDS⟩
    · exact ⟨C_Program, .type "type", (V.int 4), (.int 4 ct_Program_LETTERS), PySem.W.mg_of X G n_Program, ⟨cr_Program_LETTERS, cg_Program_LETTERS⟩, ⟨cv_Program_LETTERS, ⟨_, rfl⟩⟩, fun _ _ => .int _⟩
    · exact ⟨C_Program, .type "type", (V.int 10), (.int 10 ct_Program_STEPS), PySem.W.mg_of X G n_Program, ⟨cr_Program_STEPS, cg_Program_STEPS⟩, ⟨cv_Program_STEPS, ⟨_, rfl⟩⟩, fun _ _ => .int _⟩
    · exact ⟨C_Program, n_Program, cls_Program, nf_Program_own_bound⟩
    · exact ⟨C_Program, n_Program, cls_Program, nf_Program_own_checks⟩
    · exact ⟨C_Program, n_Program, cls_Program, nf_Program_own_inputs⟩
    · exact ⟨C_Program, n_Program, cls_Program, nf_Program_own_letters⟩
    · exact ⟨C_Program, n_Program, cls_Program, nf_Program_own_names⟩
    · exact ⟨C_Program, n_Program, cls_Program, nf_Program_own_steady⟩
    · exact ⟨C_Program, n_Program, cls_Program, nf_Program_own_steps⟩
  refine ⟨PySem.W.fnOf "law" "law" (defArgs s_law) (defBody s_law) (defScope s_law) .none kV_law dc_law pm_law an_law cd_law ct_law, fun s v => .of_eq rfl, fun base _ _ => ?_⟩
  have D_law_signs : Dff K mg "_law_signs" [] s_law_signs := dff_mk X G a_law_signs l_law_signs c_law_signs k_law_signs (fun _ _ _ _ _ _ us hl => match us, hl with | [], _ => rfl)
  have C_law_signs := cal_law_signs (P := l.prog) (w := w) (base := base) T D_law_signs
  have D_law_draw : Dff K mg "_law_draw" ["_law_feed_here", "_law_upto"] s_law_draw := dff_mk X G a_law_draw l_law_draw c_law_draw k_law_draw (fun _ _ _ _ _ _ us hl => match us, hl with | [_, _], _ => rfl)
  have C_law_draw := cal_law_draw (P := l.prog) (w := w) (base := base) T D_law_draw
  have D_law_mixed : Dff K mg "_law_mixed" ["_law_feed_here", "_law_items"] s_law_mixed := dff_mk X G a_law_mixed l_law_mixed c_law_mixed k_law_mixed (fun _ _ _ _ _ _ us hl => match us, hl with | [_, _], _ => rfl)
  have C_law_mixed := cal_law_mixed (P := l.prog) (w := w) (base := base) T D_law_mixed C_law_draw
  have D_law_of : Dff K mg "_law_of" ["_law_feed_here", "_law_items"] s_law_of := dff_mk X G a_law_of l_law_of c_law_of k_law_of (fun _ _ _ _ _ _ us hl => match us, hl with | [_, _], _ => rfl)
  have C_law_of := cal_law_of (P := l.prog) (w := w) (base := base) T D_law_of C_law_draw
  have D_law_names : Dff K mg "_law_names" ["_law_feed_here", "_law_many"] s_law_names := dff_mk X G a_law_names l_law_names c_law_names k_law_names (fun _ _ _ _ _ _ us hl => match us, hl with | [_, _], _ => rfl)
  have C_law_names := cal_law_names (P := l.prog) (w := w) (base := base) T D_law_names C_law_signs C_law_mixed C_law_of
  have D_law_word : Dff K mg "_law_word" ["_law_feed_here"] s_law_word := dff_mk X G a_law_word l_law_word c_law_word k_law_word (fun _ _ _ _ _ _ us hl => match us, hl with | [_], _ => rfl)
  have C_law_word := cal_law_word (P := l.prog) (w := w) (base := base) T D_law_word C_law_of
  have D_law_mixed_order : Dff K mg "_law_mixed_order" ["_law_feed_here", "_law_many"] s_law_mixed_order := dff_mk X G a_law_mixed_order l_law_mixed_order c_law_mixed_order k_law_mixed_order (fun _ _ _ _ _ _ us hl => match us, hl with | [_, _], _ => rfl)
  have C_law_mixed_order := cal_law_mixed_order (P := l.prog) (w := w) (base := base) T D_law_mixed_order C_law_mixed
  have D_law_front_step : Dff K mg "_law_front_step" ["_law_feed_here", "_law_name", "_law_counts", "_law_kinds"] s_law_front_step := dff_mk X G a_law_front_step l_law_front_step c_law_front_step k_law_front_step (fun _ _ _ _ _ _ us hl => match us, hl with | [_, _, _, _], _ => rfl)
  have C_law_front_step := cal_law_front_step (P := l.prog) (w := w) (base := base) T D_law_front_step C_law_of C_law_word C_law_draw C_law_mixed_order
  have D_law_front_task : Dff K mg "_law_front_task" ["_law_feed_here", "_law_many"] s_law_front_task := dff_mk X G a_law_front_task l_law_front_task c_law_front_task k_law_front_task (fun _ _ _ _ _ _ us hl => match us, hl with | [_, _], _ => rfl)
  have C_law_front_task := cal_law_front_task (P := l.prog) (w := w) (base := base) T D_law_front_task C_law_names C_law_draw C_law_of C_law_front_step
  have D_law_order : Dff K mg "_law_order" ["_law_feed_here", "_law_rank"] s_law_order := dff_mk X G a_law_order l_law_order c_law_order k_law_order (fun _ _ _ _ _ _ us hl => match us, hl with | [_, _], _ => rfl)
  have C_law_order := cal_law_order (P := l.prog) (w := w) (base := base) T D_law_order C_law_draw C_law_mixed
  have D_law_operands : Dff K mg "_law_operands" ["_law_step"] s_law_operands := dff_mk X G a_law_operands l_law_operands c_law_operands k_law_operands (fun _ _ _ _ _ _ us hl => match us, hl with | [_], _ => rfl)
  have C_law_operands := cal_law_operands (P := l.prog) (w := w) (base := base) T D_law_operands
  have D_law_counted : Dff K mg "_law_counted" ["_law_model"] s_law_counted := dff_mk X G a_law_counted l_law_counted c_law_counted k_law_counted (fun _ _ _ _ _ _ us hl => match us, hl with | [_], _ => rfl)
  have C_law_counted := cal_law_counted (P := l.prog) (w := w) (base := base) T D_law_counted C_law_operands
  have D_is_listed : Dff K mg "is_listed" ["value"] s_is_listed := dff_mk X G a_is_listed l_is_listed c_is_listed k_is_listed (fun _ _ _ _ _ _ us hl => match us, hl with | [_], _ => rfl)
  have C_is_listed := cal_is_listed (P := l.prog) (w := w) (base := base) T D_is_listed
  have D_is_name : Dff K mg "is_name" ["value"] s_is_name := dff_mk X G a_is_name l_is_name c_is_name k_is_name (fun _ _ _ _ _ _ us hl => match us, hl with | [_], _ => rfl)
  have C_is_name := cal_is_name (P := l.prog) (w := w) (base := base) T D_is_name
  have D_is_letter : Dff K mg "is_letter" ["value"] s_is_letter := dff_mk X G a_is_letter l_is_letter c_is_letter k_is_letter (fun _ _ _ _ _ _ us hl => match us, hl with | [_], _ => rfl)
  have C_is_letter := cal_is_letter (P := l.prog) (w := w) (base := base) T D_is_letter
  have D_is_number : Dff K mg "is_number" ["value"] s_is_number := dff_mk X G a_is_number l_is_number c_is_number k_is_number (fun _ _ _ _ _ _ us hl => match us, hl with | [_], _ => rfl)
  have C_is_number := cal_is_number (P := l.prog) (w := w) (base := base) T D_is_number
  have D_is_between : Dff K mg "is_between" ["value", "least", "most"] s_is_between := dff_mk X G a_is_between l_is_between c_is_between k_is_between (fun _ _ _ _ _ _ us hl => match us, hl with | [_, _, _], _ => rfl)
  have C_is_between := cal_is_between (P := l.prog) (w := w) (base := base) T D_is_between C_is_number
  have D_is_dimension : Dff K mg "is_dimension" ["value"] s_is_dimension := dff_mk X G a_is_dimension l_is_dimension c_is_dimension k_is_dimension (fun _ _ _ _ _ _ us hl => match us, hl with | [_], _ => rfl)
  have C_is_dimension := cal_is_dimension (P := l.prog) (w := w) (base := base) T D_is_dimension C_is_letter C_is_between
  have D_is_shape : Dff K mg "is_shape" ["value"] s_is_shape := dff_mk X G a_is_shape l_is_shape c_is_shape k_is_shape (fun _ _ _ _ _ _ us hl => match us, hl with | [_], _ => rfl)
  have C_is_shape := cal_is_shape (P := l.prog) (w := w) (base := base) T D_is_shape C_is_dimension
  have D_check_inputs : Dff K mg "check_inputs" ["inputs"] s_check_inputs := dff_mk X G a_check_inputs l_check_inputs c_check_inputs k_check_inputs (fun _ _ _ _ _ _ us hl => match us, hl with | [_], _ => rfl)
  have C_check_inputs := cal_check_inputs (P := l.prog) (w := w) (base := base) T D_check_inputs C_is_listed C_is_name C_is_shape
  have D_is_check : Dff K mg "is_check" ["value"] s_is_check := dff_mk X G a_is_check l_is_check c_is_check k_is_check (fun _ _ _ _ _ _ us hl => match us, hl with | [_], _ => rfl)
  have C_is_check := cal_is_check (P := l.prog) (w := w) (base := base) T D_is_check C_is_letter C_is_between
  have D_check_checks : Dff K mg "check_checks" ["checks"] s_check_checks := dff_mk X G a_check_checks l_check_checks c_check_checks k_check_checks (fun _ _ _ _ _ _ us hl => match us, hl with | [_], _ => rfl)
  have C_check_checks := cal_check_checks (P := l.prog) (w := w) (base := base) T D_check_checks C_is_listed C_is_check
  have D_operands : Dff K mg "operands" ["step"] s_operands := dff_mk X G a_operands l_operands c_operands k_operands (fun _ _ _ _ _ _ us hl => match us, hl with | [_], _ => rfl)
  have C_operands := cal_operands (P := l.prog) (w := w) (base := base) T D_operands
  have D_is_axis : Dff K mg "is_axis" ["value"] s_is_axis := dff_mk X G a_is_axis l_is_axis c_is_axis k_is_axis (fun _ _ _ _ _ _ us hl => match us, hl with | [_], _ => rfl)
  have C_is_axis := cal_is_axis (P := l.prog) (w := w) (base := base) T D_is_axis C_is_between
  have D_is_order : Dff K mg "is_order" ["value"] s_is_order := dff_mk X G a_is_order l_is_order c_is_order k_is_order (fun _ _ _ _ _ _ us hl => match us, hl with | [_], _ => rfl)
  have C_is_order := cal_is_order (P := l.prog) (w := w) (base := base) T D_is_order C_is_between
  have D_has_details : Dff K mg "has_details" ["step"] s_has_details := dff_mk X G a_has_details l_has_details c_has_details k_has_details (fun _ _ _ _ _ _ us hl => match us, hl with | [_], _ => rfl)
  have C_has_details := cal_has_details (P := l.prog) (w := w) (base := base) T D_has_details C_is_axis C_is_order C_is_number C_is_shape
  have D_is_step : Dff K mg "is_step" ["value"] s_is_step := dff_mk X G a_is_step l_is_step c_is_step k_is_step (fun _ _ _ _ _ _ us hl => match us, hl with | [_], _ => rfl)
  have C_is_step := cal_is_step (P := l.prog) (w := w) (base := base) T D_is_step C_is_name C_operands C_has_details
  have D_check_steps : Dff K mg "check_steps" ["known", "steps", "most"] s_check_steps := dff_mk X G a_check_steps l_check_steps c_check_steps k_check_steps (fun _ _ _ _ _ _ us hl => match us, hl with | [_, _, _], _ => rfl)
  have C_check_steps := cal_check_steps (P := l.prog) (w := w) (base := base) T D_check_steps C_is_listed C_is_step C_operands
  have C_letters_of : CalP l.prog w K mg base 1 "letters_of" g_letters_of := ⟨f_letters_of, fs_letters_of T l_letters_of c_letters_of, PySem.W.mg_of X G a_letters_of, k_letters_of⟩
  have D_bound_of : Dff K mg "bound_of" ["shapes", "steps"] s_bound_of := dff_mk X G a_bound_of l_bound_of c_bound_of k_bound_of (fun _ _ _ _ _ _ us hl => match us, hl with | [_, _], _ => rfl)
  have C_bound_of := cal_bound_of (P := l.prog) (w := w) (base := base) T D_bound_of C_is_number
  have A_own_letters : ∀ q ∈ tab_own_letters, AOk l.prog w K mg base 0 q.1 "own_letters" q.2 := (all_cons ⟨C_Program, n_Program, cls_Program, nf_Program_own_letters⟩ all_nil)
  have Fd_Program___init__ : FunD K "__init__" "Program.__init__" (defArgs s_Program___init__) (defBody s_Program___init__) (defScope s_Program___init__) [V.ref u0_Program___init__] [("checks", V.ref w0_Program___init__)] f_Program___init__ _ := ⟨⟨_, _, _, _, _, _, _, _, _, _, rfl, l_Program___init__, c_Program___init__, .inr ⟨by simp, T_Program___init__, _, [.ref u0_Program___init__], _, rfl, dl_Program___init__, rfl, (.cons rfl .nil)⟩, .inr ⟨K_Program___init__, rfl, (all_cons ⟨_, kl0_Program___init__, rfl⟩ all_nil)⟩⟩, k_Program___init__⟩
  have fi_x_Program___init__ := fi_Program___init__ (P := l.prog) (w := w) (base := base) T C_check_inputs C_check_checks C_check_steps C_letters_of A_own_letters C_bound_of f_Program___init__ _ (okb_funD Fd_Program___init__)
  have N_Program_2_checks := mal_full (n := 2) (ks := ["checks"]) X G n_Program ⟨mk_Program, fm_Program___init__, ff_Program___init__, kc_Program⟩ fi_x_Program___init__ Fd_Program___init__ (by simp) (by simp) (fun _ _ _ _ _ _ _ us its mv ws h1 h2 h3 h4 => match us, its, mv, ws, h1, h2, h3, h4 with | [_, _, _], [_], [], [_], _, _, _, _ => ⟨_, rfl, rfl⟩)
  have D_law_program : Dff K mg "_law_program" ["_law_model"] s_law_program := dff_mk X G a_law_program l_law_program c_law_program k_law_program (fun _ _ _ _ _ _ us hl => match us, hl with | [_], _ => rfl)
  have C_law_program := cal_law_program (P := l.prog) (w := w) (base := base) T D_law_program N_Program_2_checks
  have A_own_steady : ∀ q ∈ tab_own_steady, AOk l.prog w K mg base 0 q.1 "own_steady" q.2 := (all_cons ⟨C_Program, n_Program, cls_Program, nf_Program_own_steady⟩ all_nil)
  have A_own_inputs : ∀ q ∈ tab_own_inputs, AOk l.prog w K mg base 0 q.1 "own_inputs" q.2 := (all_cons ⟨C_Program, n_Program, cls_Program, nf_Program_own_inputs⟩ all_nil)
  have A_own_steps : ∀ q ∈ tab_own_steps, AOk l.prog w K mg base 0 q.1 "own_steps" q.2 := (all_cons ⟨C_Program, n_Program, cls_Program, nf_Program_own_steps⟩ all_nil)
  have D_told_behind : Dff K mg "told_behind" ["step", "counts"] s_told_behind := dff_mk X G a_told_behind l_told_behind c_told_behind k_told_behind (fun _ _ _ _ _ _ us hl => match us, hl with | [_, _], _ => rfl)
  have C_told_behind := cal_told_behind (P := l.prog) (w := w) (base := base) T D_told_behind
  have A_is_steady : ∀ q ∈ tab_is_steady, AOk l.prog w K mg base 2 q.1 "is_steady" q.2 := (all_cons ⟨C_Program, n_Program, cls_Program, p_Program_is_steady, f_Program_is_steady, _, _, ⟨fp_Program_is_steady, gp_Program_is_steady, tp_Program_is_steady, ⟨r_Program_is_steady, rp_Program_is_steady⟩⟩, (fo_Program_is_steady T A_own_steady f_Program_is_steady _ (fun_mk (st := s_Program_is_steady) l_Program_is_steady c_Program_is_steady k_Program_is_steady)).mono (by decide), (fun_mk (st := s_Program_is_steady) l_Program_is_steady c_Program_is_steady k_Program_is_steady).binds (fun _ _ _ _ _ _ us hl => match us, hl with | [_], _ => rfl)⟩ all_nil)
  have M_inputs : ∀ q ∈ mtab_inputs, MOk l.prog w K mg base 2 q.1 "inputs" q.2 := (all_cons ⟨C_Program, f_Program_inputs, _, _, n_Program, cls_Program, ⟨fm_Program_inputs, ff_Program_inputs, k_Program_inputs⟩, (fo_Program_inputs T A_own_inputs f_Program_inputs _ (fun_mk (st := s_Program_inputs) l_Program_inputs c_Program_inputs k_Program_inputs)).mono (by decide), (fun_mk (st := s_Program_inputs) l_Program_inputs c_Program_inputs k_Program_inputs).binds (fun _ _ _ _ _ _ us hl => match us, hl with | [_], _ => rfl)⟩ all_nil)
  have M_steps : ∀ q ∈ mtab_steps, MOk l.prog w K mg base 2 q.1 "steps" q.2 := (all_cons ⟨C_Program, f_Program_steps, _, _, n_Program, cls_Program, ⟨fm_Program_steps, ff_Program_steps, k_Program_steps⟩, (fo_Program_steps T A_own_steps f_Program_steps _ (fun_mk (st := s_Program_steps) l_Program_steps c_Program_steps k_Program_steps)).mono (by decide), (fun_mk (st := s_Program_steps) l_Program_steps c_Program_steps k_Program_steps).binds (fun _ _ _ _ _ _ us hl => match us, hl with | [_], _ => rfl)⟩ all_nil)
  have D_takes_fronts : Dff K mg "takes_fronts" ["program"] s_takes_fronts := dff_mk X G a_takes_fronts l_takes_fronts c_takes_fronts k_takes_fronts (fun _ _ _ _ _ _ us hl => match us, hl with | [_], _ => rfl)
  have C_takes_fronts := cal_takes_fronts (P := l.prog) (w := w) (base := base) T D_takes_fronts A_is_steady M_inputs M_steps C_operands C_told_behind
  have D_law_same : Dff K mg "_law_same" ["_law_found", "_law_due"] s_law_same := dff_mk X G a_law_same l_law_same c_law_same k_law_same (fun _ _ _ _ _ _ us hl => match us, hl with | [_, _], _ => rfl)
  have C_law_same := cal_law_same (P := l.prog) (w := w) (base := base) T D_law_same
  have D_law_feed : Dff K mg "_law_feed" ["_law_script"] s_law_feed := dff_mk X G a_law_feed l_law_feed c_law_feed k_law_feed (fun _ _ _ _ _ _ us hl => match us, hl with | [_], _ => rfl)
  have C_law_feed := cal_law_feed (P := l.prog) (w := w) (base := base) T D_law_feed
  exact ok_law T C_law_front_task C_law_draw C_law_of C_law_order C_law_counted C_law_program C_takes_fronts C_law_same C_law_feed (fun_mk (st := s_law) l_law c_law k_law) feed_ok law_ok
end Q
open PyProof.Rows PySem.W PySem
set_option maxHeartbeats 0 in
theorem PySem.Challenge.cw_quietsides_k41_programs_that_take_fronts_holds : PySem.Challenge.rw_quietsides_k41_programs_that_take_fronts.Holds := by
  w_on; o_law; k_head; (case hw => w_witness2)
  k_fill
  refine L2.walk_of (l := PySem.Challenge.rw_quietsides_k41_programs_that_take_fronts) (n := 63) (k := 11) (x := "_law_script") (CX := fun _ => L2.CX0) (sp := fun w => DL.spLaw _) rfl (by decide) rfl ⟨rfl, by decide, by decide⟩ (fun w h Y => PySem.W.kIn_of Y) ?F (fun _ _ a ns hl _ hS => ⟨a, ns, rfl, hS, hl, fun _ => rfl⟩) (fun _ _ _ _ _ h => h)
  case F =>
    intro w mg fa h KX G hmg
    refine' Q.all_mk KX G hmg ?n_Program ?pg_Program ?hd_Program ?po_Program ?sa_Program ?a_law_signs ?l_law_signs ?c_law_signs ?k_law_signs ?a_law_draw ?l_law_draw ?c_law_draw ?k_law_draw ?a_law_mixed ?l_law_mixed ?c_law_mixed ?k_law_mixed ?a_law_of ?l_law_of ?c_law_of ?k_law_of ?a_law_names ?l_law_names ?c_law_names ?k_law_names ?a_law_word ?l_law_word ?c_law_word ?k_law_word ?a_law_mixed_order ?l_law_mixed_order ?c_law_mixed_order ?k_law_mixed_order ?a_law_front_step ?l_law_front_step ?c_law_front_step ?k_law_front_step ?a_law_front_task ?l_law_front_task ?c_law_front_task ?k_law_front_task ?a_law_order ?l_law_order ?c_law_order ?k_law_order ?a_law_operands ?l_law_operands ?c_law_operands ?k_law_operands ?a_law_counted ?l_law_counted ?c_law_counted ?k_law_counted ?a_is_listed ?l_is_listed ?c_is_listed ?k_is_listed ?a_is_name ?l_is_name ?c_is_name ?k_is_name ?a_is_letter ?l_is_letter ?c_is_letter ?k_is_letter ?a_is_number ?l_is_number ?c_is_number ?k_is_number ?a_is_between ?l_is_between ?c_is_between ?k_is_between ?a_is_dimension ?l_is_dimension ?c_is_dimension ?k_is_dimension ?a_is_shape ?l_is_shape ?c_is_shape ?k_is_shape ?a_check_inputs ?l_check_inputs ?c_check_inputs ?k_check_inputs ?a_is_check ?l_is_check ?c_is_check ?k_is_check ?a_check_checks ?l_check_checks ?c_check_checks ?k_check_checks ?a_operands ?l_operands ?c_operands ?k_operands ?a_is_axis ?l_is_axis ?c_is_axis ?k_is_axis ?a_is_order ?l_is_order ?c_is_order ?k_is_order ?a_has_details ?l_has_details ?c_has_details ?k_has_details ?a_is_step ?l_is_step ?c_is_step ?k_is_step ?a_check_steps ?l_check_steps ?c_check_steps ?k_check_steps ?a_letters_of ?l_letters_of ?c_letters_of ?k_letters_of ?a_bound_of ?l_bound_of ?c_bound_of ?k_bound_of ?fm_Program___init__ ?ff_Program___init__ ?mk_Program ?kc_Program ?l_Program___init__ ?c_Program___init__ ?k_Program___init__ ?dl_Program___init__ ?kl0_Program___init__ ?a_law_program ?l_law_program ?c_law_program ?k_law_program ?fp_Program_is_steady ?gp_Program_is_steady ?tp_Program_is_steady ?rp_Program_is_steady ?l_Program_is_steady ?c_Program_is_steady ?k_Program_is_steady ?fm_Program_inputs ?ff_Program_inputs ?l_Program_inputs ?c_Program_inputs ?k_Program_inputs ?fm_Program_steps ?ff_Program_steps ?l_Program_steps ?c_Program_steps ?k_Program_steps ?a_told_behind ?l_told_behind ?c_told_behind ?k_told_behind ?a_takes_fronts ?l_takes_fronts ?c_takes_fronts ?k_takes_fronts ?a_law_same ?l_law_same ?c_law_same ?k_law_same ?a_law_feed ?l_law_feed ?c_law_feed ?k_law_feed ?a_law ?l_law ?c_law ?k_law ?z_all ?z_any ?z_bool ?z_dict ?z_enumerate ?z_int ?z_isinstance ?z_len ?z_list ?z_max ?z_range ?z_repr ?z_sorted ?z_str ?z_tuple ?y_MOST_CHECKED ?y_MOST_CHECKS ?y_MOST_DIMENSIONS ?y_MOST_INPUTS ?y_MOST_NAME ?y_MOST_NUMBER ?y_MOST_STACKED ?y_SMALL ?y_INDEXES ?xl_INDEXES ?y_RELATIONS ?xl_RELATIONS ?y_UNSTEADY ?xl_UNSTEADY ?y_WORDED ?xl_WORDED ?y_KINDS ?xl_KINDS ?xk_KINDS ?xe_KINDS ?xo_KINDS ?cr_Program_LETTERS ?cg_Program_LETTERS ?cv_Program_LETTERS ?cr_Program_STEPS ?cg_Program_STEPS ?cv_Program_STEPS ?nf_Program_own_bound ?nf_Program_own_checks ?nf_Program_own_inputs ?nf_Program_own_letters ?nf_Program_own_names ?nf_Program_own_steady ?nf_Program_own_steps
    (case n_Program => k_is); (case pg_Program => k_is); (case hd_Program => k_is); (case po_Program => k_is); (case sa_Program => k_is); (case a_law_signs => k_is); (case l_law_signs => k_is); (case c_law_signs => k_is)
    (case k_law_signs => k_is); (case a_law_draw => k_is); (case l_law_draw => k_is); (case c_law_draw => k_is); (case k_law_draw => k_is); (case a_law_mixed => k_is); (case l_law_mixed => k_is); (case c_law_mixed => k_is)
    (case k_law_mixed => k_is); (case a_law_of => k_is); (case l_law_of => k_is); (case c_law_of => k_is); (case k_law_of => k_is); (case a_law_names => k_is); (case l_law_names => k_is); (case c_law_names => k_is)
    (case k_law_names => k_is); (case a_law_word => k_is); (case l_law_word => k_is); (case c_law_word => k_is); (case k_law_word => k_is); (case a_law_mixed_order => k_is); (case l_law_mixed_order => k_is); (case c_law_mixed_order => k_is)
    (case k_law_mixed_order => k_is); (case a_law_front_step => k_is); (case l_law_front_step => k_is); (case c_law_front_step => k_is); (case k_law_front_step => k_is); (case a_law_front_task => k_is); (case l_law_front_task => k_is); (case c_law_front_task => k_is)
    (case k_law_front_task => k_is); (case a_law_order => k_is); (case l_law_order => k_is); (case c_law_order => k_is); (case k_law_order => k_is); (case a_law_operands => k_is); (case l_law_operands => k_is); (case c_law_operands => k_is)
    (case k_law_operands => k_is); (case a_law_counted => k_is); (case l_law_counted => k_is); (case c_law_counted => k_is); (case k_law_counted => k_is); (case a_is_listed => k_is); (case l_is_listed => k_is); (case c_is_listed => k_is)
    (case k_is_listed => k_is); (case a_is_name => k_is); (case l_is_name => k_is); (case c_is_name => k_is); (case k_is_name => k_is); (case a_is_letter => k_is); (case l_is_letter => k_is); (case c_is_letter => k_is)
    (case k_is_letter => k_is); (case a_is_number => k_is); (case l_is_number => k_is); (case c_is_number => k_is); (case k_is_number => k_is); (case a_is_between => k_is); (case l_is_between => k_is); (case c_is_between => k_is)
    (case k_is_between => k_is); (case a_is_dimension => k_is); (case l_is_dimension => k_is); (case c_is_dimension => k_is); (case k_is_dimension => k_is); (case a_is_shape => k_is); (case l_is_shape => k_is); (case c_is_shape => k_is)
    (case k_is_shape => k_is); (case a_check_inputs => k_is); (case l_check_inputs => k_is); (case c_check_inputs => k_is); (case k_check_inputs => k_is); (case a_is_check => k_is); (case l_is_check => k_is); (case c_is_check => k_is)
    (case k_is_check => k_is); (case a_check_checks => k_is); (case l_check_checks => k_is); (case c_check_checks => k_is); (case k_check_checks => k_is); (case a_operands => k_is); (case l_operands => k_is); (case c_operands => k_is)
    (case k_operands => k_is); (case a_is_axis => k_is); (case l_is_axis => k_is); (case c_is_axis => k_is); (case k_is_axis => k_is); (case a_is_order => k_is); (case l_is_order => k_is); (case c_is_order => k_is)
    (case k_is_order => k_is); (case a_has_details => k_is); (case l_has_details => k_is); (case c_has_details => k_is); (case k_has_details => k_is); (case a_is_step => k_is); (case l_is_step => k_is); (case c_is_step => k_is)
    (case k_is_step => k_is); (case a_check_steps => k_is); (case l_check_steps => k_is); (case c_check_steps => k_is); (case k_check_steps => k_is); (case a_letters_of => k_is); (case l_letters_of => k_is); (case c_letters_of => k_is)
    (case k_letters_of => k_is); (case a_bound_of => k_is); (case l_bound_of => k_is); (case c_bound_of => k_is); (case k_bound_of => k_is); (case fm_Program___init__ => k_is); (case ff_Program___init__ => k_is); (case mk_Program => k_is)
    (case kc_Program => k_is); (case l_Program___init__ => k_is); (case c_Program___init__ => k_is); (case k_Program___init__ => k_is); (case dl_Program___init__ => k_is); (case kl0_Program___init__ => k_is); (case a_law_program => k_is); (case l_law_program => k_is)
    (case c_law_program => k_is); (case k_law_program => k_is); (case fp_Program_is_steady => k_is); (case gp_Program_is_steady => k_is); (case tp_Program_is_steady => k_is); (case rp_Program_is_steady => k_is); (case l_Program_is_steady => k_is); (case c_Program_is_steady => k_is)
    (case k_Program_is_steady => k_is); (case fm_Program_inputs => k_is); (case ff_Program_inputs => k_is); (case l_Program_inputs => k_is); (case c_Program_inputs => k_is); (case k_Program_inputs => k_is); (case fm_Program_steps => k_is); (case ff_Program_steps => k_is)
    (case l_Program_steps => k_is); (case c_Program_steps => k_is); (case k_Program_steps => k_is); (case a_told_behind => k_is); (case l_told_behind => k_is); (case c_told_behind => k_is); (case k_told_behind => k_is); (case a_takes_fronts => k_is)
    (case l_takes_fronts => k_is); (case c_takes_fronts => k_is); (case k_takes_fronts => k_is); (case a_law_same => k_is); (case l_law_same => k_is); (case c_law_same => k_is); (case k_law_same => k_is); (case a_law_feed => k_is)
    (case l_law_feed => k_is); (case c_law_feed => k_is); (case k_law_feed => k_is); (case a_law => k_is); (case l_law => k_is); (case c_law => k_is); (case k_law => k_is); (case z_all => k_is)
    (case z_any => k_is); (case z_bool => k_is); (case z_dict => k_is); (case z_enumerate => k_is); (case z_int => k_is); (case z_isinstance => k_is); (case z_len => k_is); (case z_list => k_is)
    (case z_max => k_is); (case z_range => k_is); (case z_repr => k_is); (case z_sorted => k_is); (case z_str => k_is); (case z_tuple => k_is); (case y_MOST_CHECKED => k_is); (case y_MOST_CHECKS => k_is)
    (case y_MOST_DIMENSIONS => k_is); (case y_MOST_INPUTS => k_is); (case y_MOST_NAME => k_is); (case y_MOST_NUMBER => k_is); (case y_MOST_STACKED => k_is); (case y_SMALL => k_is); (case y_INDEXES => k_is); (case xl_INDEXES => k_is)
    (case y_RELATIONS => k_is); (case xl_RELATIONS => k_is); (case y_UNSTEADY => k_is); (case xl_UNSTEADY => k_is); (case y_WORDED => k_is); (case xl_WORDED => k_is); (case y_KINDS => k_is); (case xl_KINDS => k_is)
    (case cr_Program_LETTERS => k_is); (case cg_Program_LETTERS => k_is); (case cv_Program_LETTERS => k_is); (case cr_Program_STEPS => k_is); (case cg_Program_STEPS => k_is); (case cv_Program_STEPS => k_is); (case nf_Program_own_bound => k_is); (case nf_Program_own_checks => k_is)
    (case nf_Program_own_inputs => k_is); (case nf_Program_own_letters => k_is); (case nf_Program_own_names => k_is); (case nf_Program_own_steady => k_is); (case nf_Program_own_steps => k_is)
    (case xk_KINDS => repeat (first | exact trivial | refine ⟨⟨_, _, rfl, rfl⟩, ?_⟩))
    (case xe_KINDS => rfl)
    (case xo_KINDS => decide)

