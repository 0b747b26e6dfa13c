import PyProof.Rows.All
import Wide.All
import OpenK.AllK
import Wide.FinOn
import HandS.ForMost
import HandS.Star
import HandS.Exc
import HandS.ExcOwn
import HandS.Flow
import HandS.IsInst
import HandS.Deep
import HandS.Wide
import HandS.RaiseMore
import HandS.TupAny
import HandS.Small
import HandS.WordsExc
import HandS.Walk
import HandS.Zip
import HandS.Style
import HandS.More
import HandS.TupMul
import HandS.SortInts
import HandS.Text
import HandS.Conv
import PySem.Challenge.RW_quietsides_k05_two_shapes_aligned
set_option Elab.async false
set_option linter.all false
set_option maxRecDepth 100000
set_option maxHeartbeats 2000000
/-! The data layer: values as data, what an expression, a statement, a def computes of them. -/
namespace DL
open PySem PySem.Spec PyProof.Rows L2

/-! ### data -/
inductive D where
  | non | bl (b : Bool) | int (i : Int) | str (x : Str) | feed | opq (v : V)
  | tup (xs : List D) | lst (xs : List D) | dic (kvs : List (Key × D))
  /-- a list of ints that is read alone (a law's script) -/
  | scr (ns : List Int)

/-- the state of a law's feed -/
structure FS where
  cells : List Int
  at_ : Int
  rest : Int
  cnt : Int
  stir : Int

/-- the numbers of a feed's state are in their bounds -/
def FS.Ok (s : FS) : Prop := 0 ≤ s.stir ∧ s.stir < 2147483477 ∧ 0 ≤ s.at_ ∧ 0 ≤ s.rest
/-- where a law's feed stands: its list, the list of its cells, the cells -/
structure FA where
  a : Addr
  c : Addr
  cells : List Int
/-- not the feed -/
def Nfa (fa : Option FA) (b : Addr) : Prop := ∀ φ, fa = some φ → φ.a ≠ b

/-- an exception of an own class, by the class's name, with its fields -/
structure Exc where
  cls : Str
  flds : List (Str × D)

inductive Res (α : Type) where
  | bad
  | ok (a : α) (s : FS)
  | err (e : Exc) (s : FS)

abbrev M (α : Type) := FS → Res α
def Res.bnd {α β : Type} : Res α → (α → FS → Res β) → Res β
  | .bad, _ => .bad
  | .ok a s, f => f a s
  | .err e s, _ => .err e s
def M.bind {α β : Type} (m : M α) (f : α → M β) : M β := fun s => (m s).bnd f
def M.pure {α : Type} (a : α) : M α := fun s => .ok a s
def M.bad {α : Type} : M α := fun _ => .bad
instance : Monad M where
  pure := M.pure
  bind := M.bind
/-- an Option as a computation that touches nothing -/
def M.lift {α : Type} : Option α → M α
  | some a => M.pure a
  | none => M.bad

/-! ### how data stands in a heap -/

mutual
inductive Rep (K : PySem.W.Frag) (fa : Option FA) (F : Hp) : D → V → Prop
  | non : Rep K fa F .non .non
  | bl (b : Bool) : Rep K fa F (.bl b) (.bl b)
  | int (i : Int) : Rep K fa F (.int i) (.int i)
  | str (x : Str) : Rep K fa F (.str x) (.str x)
  | feed (φ : FA) : fa = some φ → Rep K fa F .feed (.ref φ.a)
  | opq (v : V) : Rep K fa F (.opq v) v
  | scr {a : Addr} {ns : List Int} : SqL K F a (ns.map V.int) → Rep K fa F (.scr ns) (.ref a)
  | tup {a : Addr} {xs : List D} {vs : List V} : SqT K F a vs → RepL K fa F xs vs → Rep K fa F (.tup xs) (.ref a)
  | lst {a : Addr} {xs : List D} {vs : List V} : F a = some (.lst vs) → RepL K fa F xs vs → Rep K fa F (.lst xs) (.ref a)
  | dic {a : Addr} {xs : List (Key × D)} {vs : List (Key × V)} : Rd F a (.dK vs) → RepK K fa F xs vs → Rep K fa F (.dic xs) (.ref a)
inductive RepL (K : PySem.W.Frag) (fa : Option FA) (F : Hp) : List D → List V → Prop
  | nil : RepL K fa F [] []
  | cons {d : D} {v : V} {ds : List D} {vs : List V} : Rep K fa F d v → RepL K fa F ds vs → RepL K fa F (d :: ds) (v :: vs)
inductive RepK (K : PySem.W.Frag) (fa : Option FA) (F : Hp) : List (Key × D) → List (Key × V) → Prop
  | nil : RepK K fa F [] []
  | cons {k : Key} {d : D} {v : V} {ds : List (Key × D)} {vs : List (Key × V)} : Rep K fa F d v → RepK K fa F ds vs → RepK K fa F ((k, d) :: ds) ((k, v) :: vs)
end

section
variable {K : PySem.W.Frag} {fa : Option FA} {F F' F'' H H' H'' : Hp}
theorem same_seqT {a : Addr} {xs : List V} (e : Same F F') (h : SqT K F a xs) : SqT K F' a xs := by
  rcases h with (h | ⟨o, h⟩) | h
  · exact .inl (.inl (e _ _ h))
  · exact .inl (.inr ⟨o, e _ _ h⟩)
  · exact .inr h
theorem same_rd {a : Addr} {u : HO} (e : Same F F') (h : Rd F a u) : Rd F' a u := by
  rcases h with h | ⟨o, h⟩
  · exact .inl (e _ _ h)
  · exact .inr ⟨o, e _ _ h⟩
mutual
theorem Rep.mono (e : Same F F') : ∀ {d : D} {v : V}, Rep K fa F d v → Rep K fa F' d v
  | _, _, .non => .non
  | _, _, .bl b => .bl b
  | _, _, .int i => .int i
  | _, _, .str x => .str x
  | _, _, .feed a h => .feed a h
  | _, _, .opq v => .opq v
  | _, _, .scr h => .scr (Same.seq e h)
  | _, _, .tup h r => .tup (same_seqT e h) (RepL.mono e r)
  | _, _, .lst h r => .lst (e _ _ h) (RepL.mono e r)
  | _, _, .dic h r => .dic (same_rd e h) (RepK.mono e r)
theorem RepL.mono (e : Same F F') : ∀ {ds : List D} {vs : List V}, RepL K fa F ds vs → RepL K fa F' ds vs
  | _, _, .nil => .nil
  | _, _, .cons r t => .cons (Rep.mono e r) (RepL.mono e t)
theorem RepK.mono (e : Same F F') : ∀ {ds : List (Key × D)} {vs : List (Key × V)}, RepK K fa F ds vs → RepK K fa F' ds vs
  | _, _, .nil => .nil
  | _, _, .cons r t => .cons (Rep.mono e r) (RepK.mono e t)
end
theorem RepL.length : ∀ {ds : List D} {vs : List V}, RepL K fa F ds vs → ds.length = vs.length
  | _, _, .nil => rfl
  | _, _, .cons _ t => congrArg (· + 1) (RepL.length t)
theorem RepL.get : ∀ {ds : List D} {vs : List V} {i : Nat} {v : V}, RepL K fa F ds vs → vs[i]? = some v → ∃ d, ds[i]? = some d ∧ Rep K fa F d v
  | _, _, i, _, .nil, h => by simp at h
  | _, _, 0, _, .cons r _, h => by simp at h; subst h; exact ⟨_, rfl, r⟩
  | _, _, i + 1, v, .cons _ t, h => by
    obtain ⟨d, e, r⟩ := RepL.get (i := i) (v := v) t (by simpa using h)
    exact ⟨d, by simpa using e, r⟩
theorem RepL.get' : ∀ {ds : List D} {vs : List V} {i : Nat} {d : D}, RepL K fa F ds vs → ds[i]? = some d → ∃ v, vs[i]? = some v ∧ Rep K fa F d v
  | _, _, i, _, .nil, h => by simp at h
  | _, _, 0, _, .cons r _, h => by simp at h; subst h; exact ⟨_, rfl, r⟩
  | _, _, i + 1, v, .cons _ t, h => by
    obtain ⟨d, e, r⟩ := RepL.get' (i := i) (d := v) t (by simpa using h)
    exact ⟨d, by simpa using e, r⟩
theorem RepL.append : ∀ {ds es : List D} {vs ws : List V}, RepL K fa F ds vs → RepL K fa F es ws → RepL K fa F (ds ++ es) (vs ++ ws)
  | _, _, _, _, .nil, s => s
  | _, _, _, _, .cons r t, s => .cons r (RepL.append t s)
theorem RepL.take : ∀ {ds : List D} {vs : List V} (n : Nat), RepL K fa F ds vs → RepL K fa F (ds.take n) (vs.take n)
  | _, _, 0, _ => .nil
  | _, _, _ + 1, .nil => .nil
  | _, _, n + 1, .cons r t => .cons r (RepL.take n t)
theorem RepL.drop : ∀ {ds : List D} {vs : List V} (n : Nat), RepL K fa F ds vs → RepL K fa F (ds.drop n) (vs.drop n)
  | _, _, 0, r => r
  | _, _, _ + 1, .nil => .nil
  | _, _, n + 1, .cons _ t => RepL.drop n t
theorem RepL.ints : ∀ (ns : List Int), RepL K fa F (ns.map D.int) (ns.map V.int)
  | [] => .nil
  | n :: ns => .cons (.int n) (RepL.ints ns)
theorem RepL.of_ints : ∀ {ns : List Int} {vs : List V}, RepL K fa F (ns.map D.int) vs → vs = ns.map V.int
  | [], _, .nil => rfl
  | n :: ns, _, .cons r t => by
    cases r
    rw [RepL.of_ints t]
    rfl
theorem RepL.of_strs : ∀ {ns : List Str} {vs : List V}, RepL K fa F (ns.map D.str) vs → vs = ns.map V.str
  | [], _, .nil => rfl
  | n :: ns, _, .cons r t => by
    cases r
    rw [RepL.of_strs t]
    rfl
theorem RepL.of_bls : ∀ {ns : List Bool} {vs : List V}, RepL K fa F (ns.map D.bl) vs → vs = ns.map V.bl
  | [], _, .nil => rfl
  | n :: ns, _, .cons r t => by
    cases r
    rw [RepL.of_bls t]
    rfl

/-! ### the state ahead of and behind an expression -/
def FeedOk (K : PySem.W.Frag) (fa : Option FA) (F H : Hp) (s : FS) : Prop :=
  ∀ φ, fa = some φ → F φ.a = none ∧ (s.cells = φ.cells ∧ s.Ok) ∧ H φ.a = some (.lst [.ref φ.c, .int s.at_, .int s.rest, .int s.cnt, .int s.stir]) ∧ F φ.c = some (.lst (φ.cells.map V.int))

structure Ext (fa : Option FA) (F H F' H' : Hp) : Prop where
  ff : Same F F'
  fh : Same F' H'
  hh : ∀ b o, H b = some o → Nfa fa b → H' b = some o
  fr : ∀ b, H b ≠ none → F' b = F b
  al : ∀ b, H b ≠ none → H' b ≠ none
theorem Ext.refl (h : Same F H) : Ext fa F H F H := ⟨Same.refl _, h, fun _ _ e _ => e, fun _ _ => rfl, fun _ e => e⟩
theorem Ext.trans (a : Ext fa F H F' H') (b : Ext fa F' H' F'' H'') : Ext fa F H F'' H'' :=
  ⟨a.ff.trans b.ff, b.fh, fun c o e n => b.hh c o (a.hh c o e n) n, fun c e => (b.fr c (a.al c e)).trans (a.fr c e), fun c e => b.al c (a.al c e)⟩
/-- a new object is laid -/
theorem Ext.new {p : Addr} {o : HO} (h : Same F H) (hp : H p = none) : Ext fa F H (upd F p o) (upd H p o) := by
  have fp : F p = none := h.free hp
  refine ⟨fun b u e => ?_, fun b u e => ?_, fun b u e _ => ?_, fun b e => ?_, fun b e => ?_⟩
  · rw [upd_ne (ne_of_none e fp)]; exact e
  · by_cases hb : b = p
    · subst hb; rw [upd_same] at e ⊢; exact e
    · rw [upd_ne hb] at e ⊢; exact h b u e
  · rw [upd_ne (ne_of_none e hp)]; exact e
  · have : b ≠ p := fun z => e (z ▸ hp)
    rw [upd_ne this]
  · have : b ≠ p := fun z => e (z ▸ hp)
    rw [upd_ne this]; exact e
theorem FeedOk.ext_same {s : FS} (x : FeedOk K fa F H s) (ff : Same F F') (hh : ∀ b o, H b = some o → H' b = some o) (fr : ∀ b, H b ≠ none → F' b = F b) : FeedOk K fa F' H' s := fun φ e => by
  obtain ⟨h1, h0, h2, h3⟩ := x φ e
  exact ⟨(fr φ.a (by rw [h2]; simp)).trans h1, h0, hh _ _ h2, ff _ _ h3⟩
theorem FeedOk.new {s : FS} {p : Addr} {o : HO} (x : FeedOk K fa F H s) (h : Same F H) (hp : H p = none) : FeedOk K fa (upd F p o) (upd H p o) s := by
  have e : Ext fa F H (upd F p o) (upd H p o) := Ext.new h hp
  refine x.ext_same e.ff (fun b u q => ?_) e.fr
  rw [upd_ne (ne_of_none q hp)]; exact q
end

/-! ### the environment of an expression -/
abbrev Env' := List (Option D)
structure EnvOk (K : PySem.W.Frag) (fa : Option FA) (F : Hp) (σ : L2.St) (ρ : Env') : Prop where
  len : ρ.length ≤ σ.length
  at_ : ∀ (i : Nat) (d : D), ρ[i]? = some (some d) → ∃ v, σ[i]? = some (some v) ∧ Rep K fa F d v
theorem EnvOk.mono {K : PySem.W.Frag} {fa : Option FA} {F F' : Hp} {σ : L2.St} {ρ : Env'} (x : EnvOk K fa F σ ρ) (e : Same F F') : EnvOk K fa F' σ ρ := ⟨x.len, fun i d h => by
  obtain ⟨v, h1, h2⟩ := x.at_ i d h
  exact ⟨v, h1, h2.mono e⟩⟩
theorem EnvOk.set {K : PySem.W.Frag} {fa : Option FA} {F : Hp} {σ : L2.St} {ρ : Env'} {i : Nat} {d : D} {v : V} (x : EnvOk K fa F σ ρ) (r : Rep K fa F d v) : EnvOk K fa F (σ.set i (some v)) (ρ.set i (some d)) := ⟨by simpa using x.len, fun j e h => by
  by_cases hj : i = j
  · subst hj
    by_cases hl : i < ρ.length
    · rw [List.getElem?_set_self hl] at h
      cases h
      exact ⟨v, by rw [List.getElem?_set_self (Nat.lt_of_lt_of_le hl x.len)], r⟩
    · rw [List.getElem?_eq_none (by simpa using hl)] at h
      cases h
  · rw [List.getElem?_set_ne hj] at h
    obtain ⟨w, h1, h2⟩ := x.at_ j e h
    exact ⟨w, by rw [List.getElem?_set_ne hj]; exact h1, h2⟩⟩

/-- what an exception is like in a heap -/
def RepX (K : PySem.W.Frag) (mg : Str → Option Value) (fa : Option FA) (F H : Hp) (e : Exc) (cls : Value) (dd : Option Addr) : Prop :=
  mg e.cls = some cls ∧ ∃ d fs, dd = some d ∧ H d = some (.xd fs) ∧ ∀ f x, e.flds.lookup f = some x → ∃ v, fs.lookup f = some v ∧ Rep K fa F x v

/-- a computation's outcome r is what is wanted: Q of its value, W of its exception -/
def GoodK (K : PySem.W.Frag) (mg : Str → Option Value) (fa : Option FA) (W : XK) (F H : Hp) (r : Res D) (Q : VK) : Prop :=
  match r with
  | .bad => False
  | .ok d s' => ∀ v F' H', Ext fa F H F' H' → FeedOk K fa F' H' s' → Rep K fa F' d v → Q v H'
  | .err e s' => ∀ cls dd F' H', Ext fa F H F' H' → FeedOk K fa F' H' s' → RepX K mg fa F' H' e cls dd → W cls dd H'
abbrev Good (X : Cx) (fa : Option FA) (W : XK) (F H : Hp) (r : Res D) (Q : VK) : Prop := GoodK X.K X.mg fa W F H r Q

/-- t does what f says -/
def TOk (X : Cx) (fa : Option FA) (W : L2.St → XK) (t : TE) (f : Env' → M D) : Prop :=
  ∀ (σ : L2.St) (F H : Hp) (ρ : Env') (s : FS) (Q : VK), Same F H → FeedOk X.K fa F H s → EnvOk X.K fa F σ ρ → Good X fa (W σ) F H (f ρ s) Q → t σ H Q
/-- AN EXPRESSION COMPUTES f -/
def ED (X : Cx) (fa : Option FA) (W : L2.St → XK) (e : Expr) (f : Env' → M D) : Prop := ∃ t, PE X e t ∧ TOk X fa W t f

/-- the same of lists (arguments) -/
def GoodL (X : Cx) (fa : Option FA) (W : XK) (F H : Hp) (r : Res (List D)) (Q : List V → Hp → Prop) : Prop :=
  match r with
  | .bad => False
  | .ok d s' => ∀ v F' H', Ext fa F H F' H' → FeedOk X.K fa F' H' s' → RepL X.K fa F' d v → Q v H'
  | .err e s' => ∀ cls dd F' H', Ext fa F H F' H' → FeedOk X.K fa F' H' s' → RepX X.K X.mg fa F' H' e cls dd → W cls dd H'
def TLOk (X : Cx) (fa : Option FA) (W : L2.St → XK) (t : TA) (f : Env' → M (List D)) : Prop :=
  ∀ (σ : L2.St) (F H : Hp) (ρ : Env') (s : FS) (Q : List V → Hp → Prop), Same F H → FeedOk X.K fa F H s → EnvOk X.K fa F σ ρ → GoodL X fa (W σ) F H (f ρ s) Q → t σ H Q
def LD (X : Cx) (fa : Option FA) (W : L2.St → XK) (es : List Expr) (f : Env' → M (List D)) : Prop := ∃ t, PA X es t ∧ TLOk X fa W t f

/-- a test -/
def GoodB (X : Cx) (fa : Option FA) (W : XK) (F H : Hp) (r : Res Bool) (Q : Bool → Hp → Prop) : Prop :=
  match r with
  | .bad => False
  | .ok d s' => ∀ F' H', Ext fa F H F' H' → FeedOk X.K fa F' H' s' → Q d H'
  | .err e s' => ∀ cls dd F' H', Ext fa F H F' H' → FeedOk X.K fa F' H' s' → RepX X.K X.mg fa F' H' e cls dd → W cls dd H'
def TTOk (X : Cx) (fa : Option FA) (W : L2.St → XK) (t : TT) (f : Env' → M Bool) : Prop :=
  ∀ (σ : L2.St) (F H : Hp) (ρ : Env') (s : FS) (Q : Bool → Hp → Prop), Same F H → FeedOk X.K fa F H s → EnvOk X.K fa F σ ρ → GoodB X fa (W σ) F H (f ρ s) Q → t σ H Q
def TD (X : Cx) (fa : Option FA) (W : L2.St → XK) (e : Expr) (f : Env' → M Bool) : Prop := ∃ t, PT X e t ∧ TTOk X fa W t f
def TWD (X : Cx) (fa : Option FA) (W : L2.St → XK) (e : Expr) (f : Env' → M Bool) : Prop := ∃ t, PW X e t ∧ TTOk X fa W t f

/-- what may be wanted of a computation's outcome: nothing bad, an exception as W says, and it stays wanted in later heaps -/
structure Tgt (X : Cx) (fa : Option FA) (W : XK) {β : Type} (G : Hp → Hp → Res β → Prop) : Prop where
  bad : ∀ F H, ¬ G F H .bad
  err : ∀ F H e s, G F H (.err e s) → ∀ cls dd F' H', Ext fa F H F' H' → FeedOk X.K fa F' H' s → RepX X.K X.mg fa F' H' e cls dd → W cls dd H'
  ext : ∀ F H F' H' r, Ext fa F H F' H' → G F H r → G F' H' r

section
variable {X : Cx} {fa : Option FA} {W : XK} {F H F' H' : Hp}
theorem Good.tgt {Q : VK} : Tgt X fa W (fun F H (r : Res D) => Good X fa W F H r Q) := by
  refine ⟨fun _ _ h => h, fun _ _ _ _ h => h, fun F H F' H' r e h => ?_⟩
  cases r with
  | bad => exact h
  | ok d s => exact fun v F2 H2 e2 => h v F2 H2 (e.trans e2)
  | err x s => exact fun c dd F2 H2 e2 => h c dd F2 H2 (e.trans e2)
theorem GoodL.tgt {Q : List V → Hp → Prop} : Tgt X fa W (fun F H (r : Res (List D)) => GoodL X fa W F H r Q) := by
  refine ⟨fun _ _ h => h, fun _ _ _ _ h => h, fun F H F' H' r e h => ?_⟩
  cases r with
  | bad => exact h
  | ok d s => exact fun v F2 H2 e2 => h v F2 H2 (e.trans e2)
  | err x s => exact fun c dd F2 H2 e2 => h c dd F2 H2 (e.trans e2)
theorem GoodB.tgt {Q : Bool → Hp → Prop} : Tgt X fa W (fun F H (r : Res Bool) => GoodB X fa W F H r Q) := by
  refine ⟨fun _ _ h => h, fun _ _ _ _ h => h, fun F H F' H' r e h => ?_⟩
  cases r with
  | bad => exact h
  | ok d s => exact fun F2 H2 e2 => h F2 H2 (e.trans e2)
  | err x s => exact fun c dd F2 H2 e2 => h c dd F2 H2 (e.trans e2)
theorem Tgt.of_ext {β : Type} {G : Hp → Hp → Res β → Prop} (T : Tgt X fa W G) {r : Res β} (e : Ext fa F H F' H') (h : G F H r) : G F' H' r := T.ext F H F' H' r e h

variable {Wσ : L2.St → XK} {σ : L2.St} {ρ : Env'} {s : FS} {β : Type} {G : Hp → Hp → Res β → Prop}
/-- run the first part: t for its f, then the rest g for what comes -/
theorem TOk.then {t : TE} {f : Env' → M D} {g : D → M β} {Q' : VK} (ht : TOk X fa Wσ t f) (T : Tgt X fa (Wσ σ) G) (h1 : Same F H) (h2 : FeedOk X.K fa F H s) (h3 : EnvOk X.K fa F σ ρ)
    (hg : G F H ((f ρ s).bnd g))
    (k : ∀ d s' v F' H', Ext fa F H F' H' → FeedOk X.K fa F' H' s' → Rep X.K fa F' d v → EnvOk X.K fa F' σ ρ → G F' H' (g d s') → Q' v H') : t σ H Q' := by
  refine ht σ F H ρ s Q' h1 h2 h3 ?_
  generalize f ρ s = r at hg
  cases r with
  | bad => exact absurd hg (T.bad F H)
  | err e s' => exact T.err F H e s' hg
  | ok d s' => exact fun v F' H' e fo r => k d s' v F' H' e fo r (h3.mono e.ff) (T.of_ext e hg)
theorem TLOk.then {t : TA} {f : Env' → M (List D)} {g : List D → M β} {Q' : List V → Hp → Prop} (ht : TLOk X fa Wσ t f) (T : Tgt X fa (Wσ σ) G) (h1 : Same F H) (h2 : FeedOk X.K fa F H s) (h3 : EnvOk X.K fa F σ ρ)
    (hg : G F H ((f ρ s).bnd g))
    (k : ∀ d s' v F' H', Ext fa F H F' H' → FeedOk X.K fa F' H' s' → RepL X.K fa F' d v → EnvOk X.K fa F' σ ρ → G F' H' (g d s') → Q' v H') : t σ H Q' := by
  refine ht σ F H ρ s Q' h1 h2 h3 ?_
  generalize f ρ s = r at hg
  cases r with
  | bad => exact absurd hg (T.bad F H)
  | err e s' => exact T.err F H e s' hg
  | ok d s' => exact fun v F' H' e fo r => k d s' v F' H' e fo r (h3.mono e.ff) (T.of_ext e hg)
theorem TTOk.then {t : TT} {f : Env' → M Bool} {g : Bool → M β} {Q' : Bool → Hp → Prop} (ht : TTOk X fa Wσ t f) (T : Tgt X fa (Wσ σ) G) (h1 : Same F H) (h2 : FeedOk X.K fa F H s) (h3 : EnvOk X.K fa F σ ρ)
    (hg : G F H ((f ρ s).bnd g))
    (k : ∀ d s' F' H', Ext fa F H F' H' → FeedOk X.K fa F' H' s' → EnvOk X.K fa F' σ ρ → G F' H' (g d s') → Q' d H') : t σ H Q' := by
  refine ht σ F H ρ s Q' h1 h2 h3 ?_
  generalize f ρ s = r at hg
  cases r with
  | bad => exact absurd hg (T.bad F H)
  | err e s' => exact T.err F H e s' hg
  | ok d s' => exact fun F' H' e fo => k d s' F' H' e fo (h3.mono e.ff) (T.of_ext e hg)
/-- an outcome that is there at once -/
theorem Good.here {d : D} {v : V} {Q : VK} (h1 : Same F H) (h2 : FeedOk X.K fa F H s) (r : Rep X.K fa F d v) (h : Good X fa W F H (.ok d s) Q) : Q v H := h v F H (Ext.refl h1) h2 r
theorem Good.new {d : D} {p : Addr} {o : HO} {Q : VK} (h1 : Same F H) (h2 : FeedOk X.K fa F H s) (hp : H p = none) (r : Rep X.K fa (upd F p o) d (.ref p)) (h : Good X fa W F H (.ok d s) Q) : Q (.ref p) (upd H p o) :=
  h _ _ _ (Ext.new h1 hp) (h2.new h1 hp) r
end
/-! ### rules by values -/
/-- what a computation on values gives: g of their data; it touches nothing but makes new objects -/
def GoodO (X : Cx) (fa : Option FA) (F H : Hp) (s : FS) (o : Option D) (Q : VK) : Prop :=
  match o with
  | none => False
  | some d => ∀ v F' H', Ext fa F H F' H' → FeedOk X.K fa F' H' s → Rep X.K fa F' d v → Q v H'
theorem Good.lift {X : Cx} {fa : Option FA} {W : XK} {F H : Hp} {s : FS} {o : Option D} {Q : VK} (h : Good X fa W F H (M.lift o s) Q) : GoodO X fa F H s o Q := by
  cases o with
  | none => exact h
  | some d => exact h
theorem GoodO.here {X : Cx} {fa : Option FA} {F H : Hp} {s : FS} {d : D} {v : V} {Q : VK} (h1 : Same F H) (h2 : FeedOk X.K fa F H s) (r : Rep X.K fa F d v) (h : GoodO X fa F H s (some d) Q) : Q v H := h v F H (Ext.refl h1) h2 r
theorem GoodO.new {X : Cx} {fa : Option FA} {F H : Hp} {s : FS} {d : D} {p : Addr} {o : HO} {Q : VK} (h1 : Same F H) (h2 : FeedOk X.K fa F H s) (hp : H p = none) (r : Rep X.K fa (upd F p o) d (.ref p)) (h : GoodO X fa F H s (some d) Q) : Q (.ref p) (upd H p o) :=
  h _ _ _ (Ext.new h1 hp) (h2.new h1 hp) r
def OpOk (X : Cx) (fa : Option FA) (r : R2) (g : D → D → Option D) : Prop :=
  ∀ (F H : Hp) (s : FS) (x y : V) (a b : D) (Q : VK), Same F H → FeedOk X.K fa F H s → Rep X.K fa F a x → Rep X.K fa F b y → GoodO X fa F H s (g a b) Q → r x y H Q
def UnOk (X : Cx) (fa : Option FA) (r : V → Hp → VK → Prop) (g : D → Option D) : Prop :=
  ∀ (F H : Hp) (s : FS) (x : V) (a : D) (Q : VK), Same F H → FeedOk X.K fa F H s → Rep X.K fa F a x → GoodO X fa F H s (g a) Q → r x H Q
def CallOk (X : Cx) (fa : Option FA) (r : List V → Hp → VK → Prop) (g : List D → Option D) : Prop :=
  ∀ (F H : Hp) (s : FS) (xs : List V) (as : List D) (Q : VK), Same F H → FeedOk X.K fa F H s → RepL X.K fa F as xs → GoodO X fa F H s (g as) Q → r xs H Q
def MtOk (X : Cx) (fa : Option FA) (r : V → List V → Hp → VK → Prop) (g : D → List D → Option D) : Prop :=
  ∀ (F H : Hp) (s : FS) (x : V) (xs : List V) (a : D) (as : List D) (Q : VK), Same F H → FeedOk X.K fa F H s → Rep X.K fa F a x → RepL X.K fa F as xs → GoodO X fa F H s (g a as) Q → r x xs H Q
end DL

set_option Elab.async false
set_option linter.all false
set_option maxRecDepth 100000
set_option maxHeartbeats 2000000
/-! The data layer: rules for expressions. -/
namespace DL
open PySem PySem.Spec PyProof.Rows L2

/-! ### what is computed -/
def dVar (i : Nat) : Env' → M D := fun ρ => M.lift (ρ[i]?.join)
def dC (d : D) : Env' → M D := fun _ => M.pure d
def dOp (g : D → D → Option D) (f1 f2 : Env' → M D) : Env' → M D := fun ρ => (f1 ρ).bind fun x => (f2 ρ).bind fun y => M.lift (g x y)
def dUn (g : D → Option D) (f1 : Env' → M D) : Env' → M D := fun ρ => (f1 ρ).bind fun x => M.lift (g x)
def lNil : Env' → M (List D) := fun _ => M.pure []
def lCons (f1 : Env' → M D) (f2 : Env' → M (List D)) : Env' → M (List D) := fun ρ => (f1 ρ).bind fun x => (f2 ρ).bind fun xs => M.pure (x :: xs)
def seqD : D → Option (List D)
  | .tup xs => some xs
  | .lst xs => some xs
  | _ => none
def lStar (f1 : Env' → M D) (f2 : Env' → M (List D)) : Env' → M (List D) := fun ρ => (f1 ρ).bind fun x => (M.lift (seqD x)).bind fun xs => (f2 ρ).bind fun ys => M.pure (xs ++ ys)
def mkTup (xs : List D) : Option D := if xs.length ≤ sizeLine then some (.tup xs) else none
def mkLst (xs : List D) : Option D := if xs.length ≤ sizeLine then some (.lst xs) else none
def dFn (g : List D → Option D) (f : Env' → M (List D)) : Env' → M D := fun ρ => (f ρ).bind fun xs => M.lift (g xs)
def dCall (g : List D → M D) (f : Env' → M (List D)) : Env' → M D := fun ρ => (f ρ).bind g
def dMt (g : D → List D → Option D) (f1 : Env' → M D) (f : Env' → M (List D)) : Env' → M D := fun ρ => (f1 ρ).bind fun x => (f ρ).bind fun xs => M.lift (g x xs)
def dIf (c : Env' → M Bool) (f1 f2 : Env' → M D) : Env' → M D := fun ρ => (c ρ).bind fun k => if k = true then f1 ρ else f2 ρ
def truthD : D → Option Bool
  | .non => some false
  | .bl b => some b
  | .int i => some (i != 0)
  | .str y => if y.length ≤ sizeLine then some ((y.length : Int) != 0) else none
  | .tup xs => some (!xs.isEmpty)
  | .lst xs => some (!xs.isEmpty)
  | _ => none
def dAnd (f1 f2 : Env' → M D) : Env' → M D := fun ρ => (f1 ρ).bind fun x => (M.lift (truthD x)).bind fun k => if k = true then f2 ρ else M.pure x
def dOr (f1 f2 : Env' → M D) : Env' → M D := fun ρ => (f1 ρ).bind fun x => (M.lift (truthD x)).bind fun k => if k = true then M.pure x else f2 ρ
def dNot (f1 : Env' → M D) : Env' → M D := fun ρ => (f1 ρ).bind fun x => (M.lift (truthD x)).bind fun k => M.pure (.bl (!k))
def cTru (f1 : Env' → M D) : Env' → M Bool := fun ρ => (f1 ρ).bind fun x => M.lift (truthD x)
def blD : D → Option Bool
  | .bl b => some b
  | _ => none
def cCmp (g : D → D → Option D) (f1 f2 : Env' → M D) : Env' → M Bool := fun ρ => (f1 ρ).bind fun x => (f2 ρ).bind fun y => (M.lift (g x y)).bind fun z => M.lift (blD z)
def dChain (g g' : D → D → Option D) (f1 f2 f3 : Env' → M D) : Env' → M D := fun ρ => (f1 ρ).bind fun x => (f2 ρ).bind fun y => (M.lift (g x y)).bind fun z => (M.lift (blD z)).bind fun k =>
  if k = true then (f3 ρ).bind fun w => M.lift (g' y w) else M.pure (.bl false)
def cChain (g g' : D → D → Option D) (f1 f2 f3 : Env' → M D) : Env' → M Bool := fun ρ => (dChain g g' f1 f2 f3 ρ).bind fun z => M.lift (blD z)
def cNot (c : Env' → M Bool) : Env' → M Bool := fun ρ => (c ρ).bind fun k => M.pure (!k)
def cAnd (c1 c2 : Env' → M Bool) : Env' → M Bool := fun ρ => (c1 ρ).bind fun k => if k = true then c2 ρ else M.pure false
def cOr (c1 c2 : Env' → M Bool) : Env' → M Bool := fun ρ => (c1 ρ).bind fun k => if k = true then M.pure true else c2 ρ

section
variable {X : Cx} {fa : Option FA} {W : L2.St → XK} {a b c e o : Expr} {es rest : List Expr} {pos p apos : Pos} {f1 f2 f3 : Env' → M D} {fl : Env' → M (List D)} {c1 c2 : Env' → M Bool}

theorem tok_var (i : Nat) : TOk X fa W (tVar i) (dVar i) := by
  intro σ F H ρ s Q h1 h2 h3 h
  unfold dVar at h
  cases e : ρ[i]? with
  | none => rw [e] at h; exact h.elim
  | some q =>
    cases q with
    | none => rw [e] at h; exact h.elim
    | some d =>
      rw [e] at h
      obtain ⟨v, hv, r⟩ := h3.at_ i d e
      exact ⟨v, hv, Good.here h1 h2 r h⟩
theorem ed_var (i : Nat) {x : Str} (hN : X.N[i]? = some x := by rfl) (hv : Vis X.env.scope x := by first | exact Or.inl rfl | exact Or.inr (Or.inl rfl) | exact Or.inr (Or.inr rfl)) (hd : (x == ("__debug__" : Str)) = false := by decide) (hcd : (x == ("__classdict__" : Str)) = false := by decide) :
    ED X fa W (.Name x pos) (dVar i) := ⟨_, pe_var hN hv hd hcd, tok_var i⟩
theorem tok_c {v : V} {d : D} (hr : ∀ F, Rep X.K fa F d v) : TOk X fa W (tC v) (dC d) := fun σ F H ρ s Q h1 h2 h3 h => Good.here h1 h2 (hr F) h
theorem ed_int {i : Int} {j : Nat} : ED X fa W (.Constant (.int i) j pos) (dC (.int i)) := ⟨_, pe_int, tok_c fun _ => .int i⟩
theorem ed_bl {i : Bool} {j : Nat} : ED X fa W (.Constant (.bool i) j pos) (dC (.bl i)) := ⟨_, pe_bl, tok_c fun _ => .bl i⟩
theorem ed_non {j : Nat} : ED X fa W (.Constant .none j pos) (dC .non) := ⟨_, pe_non, tok_c fun _ => .non⟩
theorem ed_str {x : Str} {j : Nat} : ED X fa W (.Constant (.str x) j pos) (dC (.str x)) := ⟨_, pe_str, tok_c fun _ => .str x⟩
/-- a module's constant -/
theorem ed_glob {x : Str} {v : V} {u : Value} (d : D) (hr : ∀ F, Rep X.K fa F d v) (hm : X.mg x = some u) (r : RelV v u) (hg : Gl X x := by rfl) (hd : (x == ("__debug__" : Str)) = false := by decide) : ED X fa W (.Name x pos) (dC d) :=
  ⟨_, pe_glob hg hm r hd, tok_c hr⟩
/-- a built-in class as a value -/
theorem ed_ty {x : Str} (n : String) (hm : X.mg x = none) (hv : bootBuiltins x = some (.type n) := by decide +kernel) (hg : Gl X x := by rfl) (hn : x ≠ "__name__" := by decide) (hd : (x == ("__debug__" : Str)) = false := by decide) :
    ED X fa W (.Name x pos) (dC (.opq (.ty n))) := ⟨_, pe_bltn hg hm hv (v := .ty n) rfl hn hd, tok_c fun _ => .opq _⟩

/-! ### operators -/
theorem tok_op {r : R2} {g : D → D → Option D} {ta tb : TE} (ok : OpOk X fa r g) (ha : TOk X fa W ta f1) (hb : TOk X fa W tb f2) : TOk X fa W (tOp r ta tb) (dOp g f1 f2) := by
  intro σ F H ρ s Q h1 h2 h3 h
  refine ha.then Good.tgt h1 h2 h3 h fun x s1 v F1 H1 e1 o1 r1 v1 h' => ?_
  refine hb.then Good.tgt e1.fh o1 v1 h' fun y s2 w F2 H2 e2 o2 r2 v2 h'' => ?_
  exact ok F2 H2 s2 v w x y Q e2.fh o2 (r1.mono e2.ff) r2 (Good.lift h'')
theorem ed_op {op : Operator} {r : R2} {g : D → D → Option D} (ho : OpR X (binaryOp op) r) (ok : OpOk X fa r g) (ha : ED X fa W a f1) (hb : ED X fa W b f2) : ED X fa W (.BinOp a op b pos) (dOp g f1 f2) := by
  obtain ⟨ta, pa, ka⟩ := ha
  obtain ⟨tb, pb, kb⟩ := hb
  exact ⟨_, pe_op ho pa pb, tok_op ok ka kb⟩
theorem ed_un {op : UnaryOp} {r : V → Hp → VK → Prop} {g : D → Option D} (ho : UnR X (unaryOp op) r) (ok : UnOk X fa r g) (ha : ED X fa W a f1) : ED X fa W (.UnaryOp op a pos) (dUn g f1) := by
  obtain ⟨ta, pa, ka⟩ := ha
  refine ⟨_, pe_un ho pa, fun σ F H ρ s Q h1 h2 h3 h => ?_⟩
  refine ka.then Good.tgt h1 h2 h3 h fun x s1 v F1 H1 e1 o1 r1 v1 h' => ?_
  exact ok F1 H1 s1 v x Q e1.fh o1 r1 (Good.lift h')
theorem ed_cmp {op : CmpOp} {r : R2} {g : D → D → Option D} (ho : OpR X (compareOp op) r) (ok : OpOk X fa r g) (ha : ED X fa W a f1) (hb : ED X fa W b f2) (hm : behindInMarks op b = false := by first | exact nomark _ | rfl) :
    ED X fa W (.Compare a [op] [b] pos) (dOp g f1 f2) := by
  obtain ⟨ta, pa, ka⟩ := ha
  obtain ⟨tb, pb, kb⟩ := hb
  exact ⟨_, pe_cmpR ho pa pb hm, tok_op ok ka kb⟩
/-- an outcome that must be a bool -/
theorem goodO_bl {F H : Hp} {W1 : XK} {s : FS} {z : Option D} {Q : Bool → Hp → Prop} (h1 : Same F H) (h2 : FeedOk X.K fa F H s) (h : GoodB X fa W1 F H (((M.lift z).bind fun z => M.lift (blD z)) s) Q) : GoodO X fa F H s z (fun x H' => ∃ k, x = .bl k ∧ Q k H') := by
  cases z with
  | none => exact h
  | some d =>
    cases d with
    | bl k => exact fun v F' H' e o r => by cases r; exact ⟨k, rfl, h F' H' e o⟩
    | _ => exact h.elim
theorem td_cmp {op : CmpOp} {r : R2} {g : D → D → Option D} (ho : OpR X (compareOp op) r) (ok : OpOk X fa r g) (ha : ED X fa W a f1) (hb : ED X fa W b f2) (hm : behindInMarks op b = false := by first | exact nomark _ | rfl) :
    TD X fa W (.Compare a [op] [b] pos) (cCmp g f1 f2) := by
  obtain ⟨ta, pa, ka⟩ := ha
  obtain ⟨tb, pb, kb⟩ := hb
  refine ⟨_, pt_cmpR ho pa pb hm, fun σ F H ρ s Q h1 h2 h3 h => ?_⟩
  refine ka.then GoodB.tgt h1 h2 h3 h fun x s1 v F1 H1 e1 o1 r1 v1 h' => ?_
  refine kb.then GoodB.tgt e1.fh o1 v1 h' fun y s2 w F2 H2 e2 o2 r2 v2 h'' => ?_
  exact ok F2 H2 s2 v w x y _ e2.fh o2 (r1.mono e2.ff) r2 (goodO_bl e2.fh o2 h'')
theorem tok_chain {r r' : R2} {g g' : D → D → Option D} {ta tb tc : TE} (ok : OpOk X fa r g) (ok' : OpOk X fa r' g') (ha : TOk X fa W ta f1) (hb : TOk X fa W tb f2) (hc : TOk X fa W tc f3) : TOk X fa W (tChain r r' ta tb tc) (dChain g g' f1 f2 f3) := by
  intro σ F H ρ s Q h1 h2 h3 h
  refine ha.then Good.tgt h1 h2 h3 h fun x s1 v F1 H1 e1 o1 r1 v1 h' => ?_
  refine hb.then Good.tgt e1.fh o1 v1 h' fun y s2 w F2 H2 e2 o2 r2 v2 h'' => ?_
  refine ok F2 H2 s2 v w x y _ e2.fh o2 (r1.mono e2.ff) r2 ?_
  change Good X fa (W σ) F2 H2 (((M.lift (g x y)).bind _) s2) Q at h''
  cases q : g x y with
  | none => rw [q] at h''; exact h''
  | some z =>
    rw [q] at h''
    cases z with
    | bl k =>
      intro v' F3 H3 e3 o3 r3
      cases r3
      refine ⟨k, rfl, ?_⟩
      have h4 := Good.tgt.of_ext e3 h''
      cases k with
      | true =>
        refine iteT ?_
        refine hc.then Good.tgt e3.fh o3 (v2.mono e3.ff) h4 fun z s3 w3 F4 H4 e4 o4 r4 v4 h5 => ?_
        exact ok' F4 H4 s3 w w3 y z Q e4.fh o4 (r2.mono (e3.ff.trans e4.ff)) r4 (Good.lift h5)
      | false => exact iteF (Good.here e3.fh o3 (.bl false) h4)
    | _ => exact h''.elim
theorem ed_chain {op op' : CmpOp} {r r' : R2} {g g' : D → D → Option D} (ho : OpR X (compareOp op) r) (ok : OpOk X fa r g) (ho' : OpR X (compareOp op') r') (ok' : OpOk X fa r' g') (ha : ED X fa W a f1) (hb : ED X fa W b f2) (hc : ED X fa W c f3)
    (hm : lastMarks [op, op'] [b, c] = false := by with_unfolding_all rfl) : ED X fa W (.Compare a [op, op'] [b, c] pos) (dChain g g' f1 f2 f3) := by
  obtain ⟨ta, pa, ka⟩ := ha
  obtain ⟨tb, pb, kb⟩ := hb
  obtain ⟨tc, pc, kc⟩ := hc
  exact ⟨_, pe_chain ho ho' pa pb pc hm, tok_chain ok ok' ka kb kc⟩
theorem td_chain {op op' : CmpOp} {r r' : R2} {g g' : D → D → Option D} (ho : OpR X (compareOp op) r) (ok : OpOk X fa r g) (ho' : OpR X (compareOp op') r') (ok' : OpOk X fa r' g') (ha : ED X fa W a f1) (hb : ED X fa W b f2) (hc : ED X fa W c f3)
    (hm : lastMarks [op, op'] [b, c] = false := by with_unfolding_all rfl) : TD X fa W (.Compare a [op, op'] [b, c] pos) (cChain g g' f1 f2 f3) := by
  obtain ⟨ta, pa, ka⟩ := ha
  obtain ⟨tb, pb, kb⟩ := hb
  obtain ⟨tc, pc, kc⟩ := hc
  refine ⟨_, pt_chain ho ho' pa pb pc hm, fun σ F H ρ s Q h1 h2 h3 h => ?_⟩
  refine (tok_chain ok ok' ka kb kc).then GoodB.tgt h1 h2 h3 h fun x s1 v F1 H1 e1 o1 r1 v1 h' => ?_
  cases x with
  | bl k => cases r1; exact ⟨k, rfl, h' F1 H1 (Ext.refl e1.fh) o1⟩
  | _ => exact h'.elim

/-! ### truth -/
theorem tru_rep {F H : Hp} {x : V} {d : D} {k : Bool} (h1 : Same F H) (r : Rep X.K fa F d x) (h : truthD d = some k) : TruV X.K x H k := by
  cases r with
  | non => cases h; rfl
  | bl b => cases h; rfl
  | int i => cases h; rfl
  | str y =>
    by_cases hl : y.length ≤ sizeLine
    · rw [show truthD (.str y) = some ((y.length : Int) != 0) from if_pos hl] at h
      cases h; exact ⟨hl, rfl⟩
    · rw [show truthD (.str y) = none from if_neg hl] at h
      cases h
  | feed a e => cases h
  | opq v => cases h
  | scr _ => cases h
  | tup h' r =>
    cases h
    refine .inr (.inl ⟨_, same_seqT h1 h', ?_⟩)
    cases r <;> rfl
  | lst h' r =>
    cases h
    refine .inl ⟨_, SqL.of (h1 _ _ h'), ?_⟩
    cases r <;> rfl
  | dic h' r => cases h
theorem td_tru (ha : ED X fa W a f1) (he : ∀ whole, isTrue a X.env whole = (do let v ← whole; standAt a.pos; holding [v] (truthy v)) := by intro _; rfl) : TD X fa W a (cTru f1) := by
  obtain ⟨ta, pa, ka⟩ := ha
  refine ⟨_, pt_truth pa he, fun σ F H ρ s Q h1 h2 h3 h => ?_⟩
  refine ka.then GoodB.tgt h1 h2 h3 h fun x s1 v F1 H1 e1 o1 r1 v1 h' => ?_
  cases q : truthD x with
  | none => rw [q] at h'; exact h'.elim
  | some k =>
    rw [q] at h'
    exact ⟨k, tru_rep e1.fh r1 q, h' F1 H1 (Ext.refl e1.fh) o1⟩
theorem td_not (ha : TD X fa W a c1) : TD X fa W (.UnaryOp .Not a pos) (cNot c1) := by
  obtain ⟨ta, pa, ka⟩ := ha
  refine ⟨_, pt_not pa, fun σ F H ρ s Q h1 h2 h3 h => ?_⟩
  exact ka.then GoodB.tgt h1 h2 h3 h fun x s1 F1 H1 e1 o1 v1 h' => h' F1 H1 (Ext.refl e1.fh) o1
theorem twd_and1 (ha : TD X fa W a c1) : TWD X fa W (.BoolOp .And [a] pos) c1 := by
  obtain ⟨ta, pa, ka⟩ := ha
  exact ⟨_, pw_and1 pa, ka⟩
theorem twd_or1 (ha : TD X fa W a c1) : TWD X fa W (.BoolOp .Or [a] pos) c1 := by
  obtain ⟨ta, pa, ka⟩ := ha
  exact ⟨_, pw_or1 pa, ka⟩
theorem twd_and (ha : TD X fa W a c1) (hb : TWD X fa W (.BoolOp .And (b :: rest) pos) c2) : TWD X fa W (.BoolOp .And (a :: b :: rest) pos) (cAnd c1 c2) := by
  obtain ⟨ta, pa, ka⟩ := ha
  obtain ⟨tb, pb, kb⟩ := hb
  refine ⟨_, pw_and pa pb, fun σ F H ρ s Q h1 h2 h3 h => ?_⟩
  refine ka.then GoodB.tgt h1 h2 h3 h fun x s1 F1 H1 e1 o1 v1 h' => ?_
  cases x with
  | true => exact iteT (kb σ F1 H1 ρ s1 Q e1.fh o1 v1 h')
  | false => exact iteF (h' F1 H1 (Ext.refl e1.fh) o1)
theorem twd_or (ha : TD X fa W a c1) (hb : TWD X fa W (.BoolOp .Or (b :: rest) pos) c2) : TWD X fa W (.BoolOp .Or (a :: b :: rest) pos) (cOr c1 c2) := by
  obtain ⟨ta, pa, ka⟩ := ha
  obtain ⟨tb, pb, kb⟩ := hb
  refine ⟨_, pw_or pa pb, fun σ F H ρ s Q h1 h2 h3 h => ?_⟩
  refine ka.then GoodB.tgt h1 h2 h3 h fun x s1 F1 H1 e1 o1 v1 h' => ?_
  cases x with
  | false => exact iteF (kb σ F1 H1 ρ s1 Q e1.fh o1 v1 h')
  | true => exact iteT (h' F1 H1 (Ext.refl e1.fh) o1)
theorem TWD.td (h : TWD X fa W a c1) : TD X fa W a c1 := by
  obtain ⟨t, p, k⟩ := h
  exact ⟨t, p.pt, k⟩
theorem ed_one {op : BoolOp} (ha : ED X fa W a f1) : ED X fa W (.BoolOp op [a] pos) f1 := by
  obtain ⟨ta, pa, ka⟩ := ha
  exact ⟨_, pe_one pa, ka⟩
theorem ed_and (ha : ED X fa W a f1) (hb : ED X fa W (.BoolOp .And (b :: rest) pos) f2) : ED X fa W (.BoolOp .And (a :: b :: rest) pos) (dAnd f1 f2) := by
  obtain ⟨ta, pa, ka⟩ := ha
  obtain ⟨tb, pb, kb⟩ := hb
  refine ⟨_, L2.pe_andT pa pb, fun σ F H ρ s Q h1 h2 h3 h => ?_⟩
  refine ka.then Good.tgt h1 h2 h3 h fun x s1 v F1 H1 e1 o1 r1 v1 h' => ?_
  change Good X fa (W σ) F1 H1 (((M.lift (truthD x)).bind _) s1) Q at h'
  cases q : truthD x with
  | none => rw [q] at h'; exact h'.elim
  | some k =>
    rw [q] at h'
    refine ⟨k, tru_rep e1.fh r1 q, ?_⟩
    cases k with
    | true => exact iteT (kb σ F1 H1 ρ s1 Q e1.fh o1 v1 h')
    | false => exact iteF (Good.here e1.fh o1 r1 h')
theorem ed_or (ha : ED X fa W a f1) (hb : ED X fa W (.BoolOp .Or (b :: rest) pos) f2) : ED X fa W (.BoolOp .Or (a :: b :: rest) pos) (dOr f1 f2) := by
  obtain ⟨ta, pa, ka⟩ := ha
  obtain ⟨tb, pb, kb⟩ := hb
  refine ⟨_, L2.pe_orT pa pb, fun σ F H ρ s Q h1 h2 h3 h => ?_⟩
  refine ka.then Good.tgt h1 h2 h3 h fun x s1 v F1 H1 e1 o1 r1 v1 h' => ?_
  change Good X fa (W σ) F1 H1 (((M.lift (truthD x)).bind _) s1) Q at h'
  cases q : truthD x with
  | none => rw [q] at h'; exact h'.elim
  | some k =>
    rw [q] at h'
    refine ⟨k, tru_rep e1.fh r1 q, ?_⟩
    cases k with
    | false => exact iteF (kb σ F1 H1 ρ s1 Q e1.fh o1 v1 h')
    | true => exact iteT (Good.here e1.fh o1 r1 h')
theorem ed_not (ha : ED X fa W a f1) : ED X fa W (.UnaryOp .Not a pos) (dNot f1) := by
  obtain ⟨ta, pa, ka⟩ := ha
  refine ⟨_, L2.pe_notT pa, fun σ F H ρ s Q h1 h2 h3 h => ?_⟩
  refine ka.then Good.tgt h1 h2 h3 h fun x s1 v F1 H1 e1 o1 r1 v1 h' => ?_
  change Good X fa (W σ) F1 H1 (((M.lift (truthD x)).bind _) s1) Q at h'
  cases q : truthD x with
  | none => rw [q] at h'; exact h'.elim
  | some k =>
    rw [q] at h'
    exact ⟨k, tru_rep e1.fh r1 q, Good.here e1.fh o1 (.bl _) h'⟩
theorem ed_if (hc : TD X fa W c c1) (ha : ED X fa W a f1) (hb : ED X fa W b f2) : ED X fa W (.IfExp c a b pos) (dIf c1 f1 f2) := by
  obtain ⟨tc, pc, kc⟩ := hc
  obtain ⟨ta, pa, ka⟩ := ha
  obtain ⟨tb, pb, kb⟩ := hb
  refine ⟨_, pe_ifExp pc pa pb, fun σ F H ρ s Q h1 h2 h3 h => ?_⟩
  refine kc.then Good.tgt h1 h2 h3 h fun x s1 F1 H1 e1 o1 v1 h' => ?_
  cases x with
  | true => exact iteT (ka σ F1 H1 ρ s1 Q e1.fh o1 v1 h')
  | false => exact iteF (kb σ F1 H1 ρ s1 Q e1.fh o1 v1 h')

/-! ### lists of expressions, displays -/
theorem ld_nil : LD X fa W [] lNil := ⟨_, pa_nil, fun σ F H ρ s Q h1 h2 h3 h => h [] F H (Ext.refl h1) h2 .nil⟩
theorem ld_cons (ha : ED X fa W e f1) (hr : LD X fa W es fl) (hs : starEach (e :: es) X.env = (false, eval e X.env) :: starEach es X.env := by rfl) : LD X fa W (e :: es) (lCons f1 fl) := by
  obtain ⟨ta, pa, ka⟩ := ha
  obtain ⟨tr, pr, kr⟩ := hr
  refine ⟨_, pa_cons pa pr hs, fun σ F H ρ s Q h1 h2 h3 h => ?_⟩
  refine ka.then GoodL.tgt h1 h2 h3 h fun x s1 v F1 H1 e1 o1 r1 v1 h' => ?_
  refine kr.then GoodL.tgt e1.fh o1 v1 h' fun y s2 w F2 H2 e2 o2 r2 v2 h'' => ?_
  exact h'' _ F2 H2 (Ext.refl e2.fh) o2 (.cons (r1.mono e2.ff) r2)
theorem ld_star (ha : ED X fa W e f1) (hr : LD X fa W es fl) (hs : starEach (.Starred e p :: es) X.env = (true, eval e X.env) :: starEach es X.env := by rfl) : LD X fa W (.Starred e p :: es) (lStar f1 fl) := by
  obtain ⟨ta, pa, ka⟩ := ha
  obtain ⟨tr, pr, kr⟩ := hr
  refine ⟨_, StX.pa_star pa pr hs, fun σ F H ρ s Q h1 h2 h3 h => ?_⟩
  refine ka.then GoodL.tgt h1 h2 h3 h fun x s1 v F1 H1 e1 o1 r1 v1 h' => ?_
  change GoodL X fa (W σ) F1 H1 (((M.lift (seqD x)).bind _) s1) Q at h'
  cases r1 with
  | tup hq rl =>
    refine ⟨_, _, rfl, .inl (same_seqT e1.fh hq), ?_⟩
    refine kr.then GoodL.tgt e1.fh o1 v1 h' fun y s2 w F2 H2 e2 o2 r2 v2 h'' => ?_
    exact h'' _ F2 H2 (Ext.refl e2.fh) o2 ((rl.mono e2.ff).append r2)
  | lst hq rl =>
    refine ⟨_, _, rfl, .inr (SqL.of (e1.fh _ _ hq)), ?_⟩
    refine kr.then GoodL.tgt e1.fh o1 v1 h' fun y s2 w F2 H2 e2 o2 r2 v2 h'' => ?_
    exact h'' _ F2 H2 (Ext.refl e2.fh) o2 ((rl.mono e2.ff).append r2)
  | _ => exact h'.elim
theorem GoodO.mkTup {F H : Hp} {s : FS} {xs : List D} {vs : List V} {Q : VK} (h1 : Same F H) (h2 : FeedOk X.K fa F H s) (r : RepL X.K fa F xs vs) (h : GoodO X fa F H s (mkTup xs) Q) : vs.length ≤ sizeLine ∧ ∀ p, H p = none → Q (.ref p) (upd H p (.tup vs)) := by
  unfold DL.mkTup at h
  split at h
  · rename_i hl
    refine ⟨by rw [← r.length]; exact hl, fun p hp => GoodO.new h1 h2 hp (.tup (SqT.of upd_same) (r.mono (Ext.new (fa := fa) h1 hp).ff)) h⟩
  · exact h.elim
theorem GoodO.mkLst {F H : Hp} {s : FS} {xs : List D} {vs : List V} {Q : VK} (h1 : Same F H) (h2 : FeedOk X.K fa F H s) (r : RepL X.K fa F xs vs) (h : GoodO X fa F H s (mkLst xs) Q) : vs.length ≤ sizeLine ∧ ∀ p, H p = none → Q (.ref p) (upd H p (.lst vs)) := by
  unfold DL.mkLst at h
  split at h
  · rename_i hl
    refine ⟨by rw [← r.length]; exact hl, fun p hp => GoodO.new h1 h2 hp (.lst upd_same (r.mono (Ext.new (fa := fa) h1 hp).ff)) h⟩
  · exact h.elim
theorem ed_tup {k : Nat} (ha : LD X fa W es fl) : ED X fa W (.Tuple es k pos) (dFn mkTup fl) := by
  obtain ⟨ta, pa, ka⟩ := ha
  refine ⟨_, pe_tup pa, fun σ F H ρ s Q h1 h2 h3 h => ?_⟩
  refine ka.then Good.tgt h1 h2 h3 h fun x s1 v F1 H1 e1 o1 r1 v1 h' => ?_
  exact GoodO.mkTup e1.fh o1 r1 (Good.lift h')
theorem ed_lst (ha : LD X fa W es fl) : ED X fa W (.List es pos) (dFn mkLst fl) := by
  obtain ⟨ta, pa, ka⟩ := ha
  refine ⟨_, pe_lst pa, fun σ F H ρ s Q h1 h2 h3 h => ?_⟩
  refine ka.then Good.tgt h1 h2 h3 h fun x s1 v F1 H1 e1 o1 r1 v1 h' => ?_
  exact GoodO.mkLst e1.fh o1 r1 (Good.lift h')

/-! ### calls -/
/-- the promise of a def: it computes g -/
def DSp (K : PySem.W.Frag) (mg : Str → Option Value) (g : List D → M D) : Sp := fun vs H Q E =>
  ∃ fa F s ds, Same F H ∧ FeedOk K fa F H s ∧ RepL K fa F ds vs ∧ GoodK K mg fa E F H (g ds s) Q
theorem ed_call {CX : CXT} {k : Nat} {f : Addr} {fd : FuncData} {ps : List Str} {g : List D → M D} {x : Str} (F : FnOk X.prog X.w X.K X.mg X.base CX k f fd ps (DSp X.K X.mg g)) (hr : Room k X.A) (hm : X.mg x = some (.ref f)) (hk : PySem.W.keepIn X.K (.ref f) = true) (hb : Binds X.K fd ps [])
    (hx : ∀ σ, PassesAt CX X σ (W σ)) (ha : LD X fa W (e :: es) fl) (hg : Gl X x := by rfl) (hdb : (x == ("__debug__" : Str)) = false := by decide) (he : starEach (e :: es) X.env = (false, eval e X.env) :: starEach es X.env := by rfl) (hpl : (backTo pos (starEach es X.env)).any (·.1) = false := by rfl) :
    ED X fa W (.Call (.Name x p) (e :: es) [] pos) (dCall g fl) := by
  obtain ⟨ta, pa, ka⟩ := ha
  refine ⟨_, pe_callS F hr hg hm hk hb hx pa hdb he hpl, fun σ F H ρ s Q h1 h2 h3 h => ?_⟩
  refine ka.then Good.tgt h1 h2 h3 h fun x s1 v F1 H1 e1 o1 r1 v1 h' => ?_
  exact ⟨fa, F1, s1, x, e1.fh, o1, r1, h'⟩
theorem ed_callB {id : String} {r : List V → Hp → VK → Prop} {g : List D → Option D} {x : Str} (hc : CallR X (.builtin id) r) (ok : CallOk X fa r g) (hm : X.mg x = none) (ha : LD X fa W (e :: es) fl) (hv : bootBuiltins x = some (.builtin id) := by decide +kernel)
    (hg : Gl X x := by rfl) (hn : x ≠ "__name__" := by decide) (hdb : (x == ("__debug__" : Str)) = false := by decide) (he : starEach (e :: es) X.env = (false, eval e X.env) :: starEach es X.env := by rfl) (hpl : (backTo pos (starEach es X.env)).any (·.1) = false := by rfl) :
    ED X fa W (.Call (.Name x p) (e :: es) [] pos) (dFn g fl) := by
  obtain ⟨ta, pa, ka⟩ := ha
  refine ⟨_, pe_callB hc hg hm hv pa hn hdb he hpl, fun σ F H ρ s Q h1 h2 h3 h => ?_⟩
  refine ka.then Good.tgt h1 h2 h3 h fun x s1 v F1 H1 e1 o1 r1 v1 h' => ?_
  exact ok F1 H1 s1 v x Q e1.fh o1 r1 (Good.lift h')
theorem ed_callTy {T : String} {r : List V → Hp → VK → Prop} {g : List D → Option D} {x : Str} (hc : CallR X (.type T) r) (ok : CallOk X fa r g) (hm : X.mg x = none) (ha : LD X fa W (e :: es) fl) (hv : bootBuiltins x = some (.type T) := by decide +kernel)
    (hg : Gl X x := by rfl) (hn : x ≠ "__name__" := by decide) (hdb : (x == ("__debug__" : Str)) = false := by decide) (he : starEach (e :: es) X.env = (false, eval e X.env) :: starEach es X.env := by rfl) (hpl : (backTo pos (starEach es X.env)).any (·.1) = false := by rfl) :
    ED X fa W (.Call (.Name x p) (e :: es) [] pos) (dFn g fl) := by
  obtain ⟨ta, pa, ka⟩ := ha
  refine ⟨_, pe_callTy hc hg hm hv pa hn hdb he hpl, fun σ F H ρ s Q h1 h2 h3 h => ?_⟩
  refine ka.then Good.tgt h1 h2 h3 h fun x s1 v F1 H1 e1 o1 r1 v1 h' => ?_
  exact ok F1 H1 s1 v x Q e1.fh o1 r1 (Good.lift h')
end
end DL

set_option Elab.async false
set_option linter.all false
set_option maxRecDepth 100000
set_option maxHeartbeats 2000000
/-! The data layer: statements, with lists and dicts that a slot owns. -/
namespace DL
open PySem PySem.Spec PyProof.Rows L2

/-! ### what a slot holds -/
inductive EV where
  | no
  | d (x : D)
  | ol (xs : List D)
  | od (kvs : List (Key × D))
abbrev Sts := List EV
def EV.view : EV → Option D
  | .no => none
  | .d x => some x
  | .ol xs => some (.lst xs)
  | .od kvs => some (.dic kvs)
def EV.mask : EV → Option D
  | .d x => some x
  | _ => none
def EV.own : EV → Bool
  | .ol _ => true
  | .od _ => true
  | _ => false
/-- frozen -/
def EV.fz : EV → EV
  | .ol xs => .d (.lst xs)
  | .od kvs => .d (.dic kvs)
  | e => e
def view (ρ : Sts) : Env' := ρ.map EV.view
def mask (ρ : Sts) : Env' := ρ.map EV.mask

def SlotOk (K : PySem.W.Frag) (fa : Option FA) (H0 F H : Hp) (p : Addr) (w : Option V) : EV → Prop
  | .no => True
  | .d x => ∃ v, w = some v ∧ Rep K fa F x v
  | .ol xs => w = some (.ref p) ∧ F p = none ∧ H0 p = none ∧ Nfa fa p ∧ ∃ vs, H p = some (.lst vs) ∧ RepL K fa F xs vs
  | .od kvs => w = some (.ref p) ∧ F p = none ∧ H0 p = none ∧ Nfa fa p ∧ ∃ vs, H p = some (.dK vs) ∧ RepK K fa F kvs vs

structure SOk (K : PySem.W.Frag) (fa : Option FA) (B F0 H0 F H : Hp) (A : Nat → Addr) (σ : L2.St) (ρ : Sts) (s : FS) : Prop where
  ext : Ext fa F0 H0 F H
  flr : Same B F
  fd : FeedOk K fa F H s
  len : σ.length = ρ.length
  slot : ∀ i ev, ρ[i]? = some ev → SlotOk K fa H0 F H (A i) (σ[i]?.join) ev
  inj : ∀ i j ev ev', ρ[i]? = some ev → ρ[j]? = some ev' → ev.own = true → ev'.own = true → A i = A j → i = j

section
variable {K : PySem.W.Frag} {fa : Option FA} {B B' F0 H0 F H F' H' : Hp} {A : Nat → Addr} {σ : L2.St} {ρ ρ' : Sts} {s s' : FS}
theorem SlotOk.own_at {p : Addr} {w : Option V} {ev : EV} (h : SlotOk K fa H0 F H p w ev) (ho : ev.own = true) : w = some (.ref p) ∧ F p = none ∧ H0 p = none ∧ Nfa fa p ∧ H p ≠ none := by
  cases ev with
  | ol xs =>
    obtain ⟨a, b, c, d, vs, e, _⟩ := h
    exact ⟨a, b, c, d, by rw [e]; simp⟩
  | od xs =>
    obtain ⟨a, b, c, d, vs, e, _⟩ := h
    exact ⟨a, b, c, d, by rw [e]; simp⟩
  | _ => cases ho
/-- an expression has run from F, H to F', H' -/
theorem SlotOk.step {p : Addr} {w : Option V} {ev : EV} (h : SlotOk K fa H0 F H p w ev) (e : Ext fa F H F' H') : SlotOk K fa H0 F' H' p w ev := by
  cases ev with
  | no => trivial
  | d x =>
    obtain ⟨v, a, b⟩ := h
    exact ⟨v, a, b.mono e.ff⟩
  | ol xs =>
    obtain ⟨a, b, c, d, vs, g, r⟩ := h
    exact ⟨a, (e.fr p (by rw [g]; simp)).trans b, c, d, vs, e.hh _ _ g d, r.mono e.ff⟩
  | od xs =>
    obtain ⟨a, b, c, d, vs, g, r⟩ := h
    exact ⟨a, (e.fr p (by rw [g]; simp)).trans b, c, d, vs, e.hh _ _ g d, r.mono e.ff⟩
theorem SOk.step (S : SOk K fa B F0 H0 F H A σ ρ s) (e : Ext fa F H F' H') (fo : FeedOk K fa F' H' s') : SOk K fa B F0 H0 F' H' A σ ρ s' :=
  ⟨S.ext.trans e, S.flr.trans e.ff, fo, S.len, fun i ev h => (S.slot i ev h).step e, S.inj⟩
theorem SOk.base (S : SOk K fa B F0 H0 F H A σ ρ s) (b : Same B' B) : SOk K fa B' F0 H0 F H A σ ρ s := ⟨S.ext, b.trans S.flr, S.fd, S.len, S.slot, S.inj⟩
theorem SOk.floor (S : SOk K fa B F0 H0 F H A σ ρ s) : SOk K fa F F0 H0 F H A σ ρ s := ⟨S.ext, Same.refl _, S.fd, S.len, S.slot, S.inj⟩

/-! ### all that is owned, as if frozen -/
open Classical in
noncomputable def Fp (F H : Hp) (A : Nat → Addr) (ρ : Sts) : Hp := fun b => if ∃ i ev, ρ[i]? = some ev ∧ ev.own = true ∧ A i = b then H b else F b
theorem Fp_own {i : Nat} {ev : EV} (h : ρ[i]? = some ev) (ho : ev.own = true) : Fp F H A ρ (A i) = H (A i) := by
  unfold Fp
  rw [if_pos ⟨i, ev, h, ho, rfl⟩]
theorem Fp_not {b : Addr} (h : ¬ ∃ i ev, ρ[i]? = some ev ∧ ev.own = true ∧ A i = b) : Fp F H A ρ b = F b := by
  unfold Fp
  rw [if_neg h]
theorem SOk.fp (S : SOk K fa B F0 H0 F H A σ ρ s) : Same F (Fp F H A ρ) ∧ Same (Fp F H A ρ) H ∧ FeedOk K fa (Fp F H A ρ) H s ∧ Ext fa F0 H0 (Fp F H A ρ) H := by
  have ff : Same F (Fp F H A ρ) := fun b o e => by
    rw [Fp_not]
    · exact e
    · rintro ⟨i, ev, h, ho, rfl⟩
      rw [((S.slot i ev h).own_at ho).2.1] at e
      cases e
  have fh : Same (Fp F H A ρ) H := fun b o e => by
    by_cases h : ∃ i ev, ρ[i]? = some ev ∧ ev.own = true ∧ A i = b
    · obtain ⟨i, ev, h, ho, rfl⟩ := h
      rw [Fp_own h ho] at e
      exact e
    · rw [Fp_not h] at e
      exact S.ext.fh b o e
  refine ⟨ff, fh, fun φ e => ?_, ⟨S.ext.ff.trans ff, fh, S.ext.hh, fun b e => ?_, S.ext.al⟩⟩
  · obtain ⟨h1, h2, h3, h4⟩ := S.fd φ e
    refine ⟨?_, h2, h3, ff _ _ h4⟩
    rw [Fp_not]
    · exact h1
    · rintro ⟨i, ev, h, ho, q⟩
      exact ((S.slot i ev h).own_at ho).2.2.2.1 φ e q.symm
  · rw [Fp_not]
    · exact S.ext.fr b e
    · rintro ⟨i, ev, h, ho, rfl⟩
      exact e ((S.slot i ev h).own_at ho).2.2.1
/-- a slot, seen in the frozen heap -/
theorem SOk.slotFp (S : SOk K fa B F0 H0 F H A σ ρ s) {i : Nat} {ev : EV} {x : D} (h : ρ[i]? = some ev) (hv : ev.view = some x) : ∃ v, σ[i]?.join = some v ∧ Rep K fa (Fp F H A ρ) x v := by
  have q := S.slot i ev h
  have ff := S.fp.1
  cases ev with
  | no => cases hv
  | d y =>
    cases hv
    obtain ⟨v, a, b⟩ := q
    exact ⟨v, a, b.mono ff⟩
  | ol xs =>
    cases hv
    obtain ⟨a, b, c, d, vs, g, r⟩ := q
    exact ⟨_, a, .lst (by rw [Fp_own h rfl]; exact g) (r.mono ff)⟩
  | od xs =>
    cases hv
    obtain ⟨a, b, c, d, vs, g, r⟩ := q
    exact ⟨_, a, .dic (.inl (by rw [Fp_own h rfl]; exact g)) (r.mono ff)⟩
theorem join_some {σ : L2.St} {i : Nat} {v : V} (h : σ[i]?.join = some v) : σ[i]? = some (some v) := by
  cases e : σ[i]? with
  | none => rw [e] at h; cases h
  | some w => rw [e] at h; exact congrArg some h
theorem app_get {α : Type} {l m : List α} {i : Nat} {x : α} (h : l[i]? = some x) : (l ++ m)[i]? = some x := by
  rw [List.getElem?_append_left (List.getElem?_eq_some_iff.mp h).1]
  exact h
/-- the environment of an expression: the slots, what is owned as if frozen (more may lie behind) -/
theorem SOk.view {σ vs : L2.St} {ρ evs : Sts} (S : SOk K fa B F0 H0 F H A (σ ++ vs) (ρ ++ evs) s) (hl : σ.length = ρ.length) : EnvOk K fa (Fp F H A (ρ ++ evs)) σ (DL.view ρ) := ⟨by unfold DL.view; simp [hl], fun i d h => by
  unfold DL.view at h
  rw [List.getElem?_map] at h
  cases e : ρ[i]? with
  | none => rw [e] at h; cases h
  | some ev =>
    rw [e] at h
    have hv : ev.view = some d := Option.some.inj h
    obtain ⟨v, a, r⟩ := S.slotFp (app_get e) hv
    refine ⟨v, ?_, r⟩
    have hi : i < σ.length := by rw [hl]; exact (List.getElem?_eq_some_iff.mp e).1
    rw [List.getElem?_append_left hi] at a
    exact join_some a⟩
theorem SOk.mask {σ vs : L2.St} {ρ evs : Sts} (S : SOk K fa B F0 H0 F H A (σ ++ vs) (ρ ++ evs) s) (hl : σ.length = ρ.length) : EnvOk K fa F σ (DL.mask ρ) := ⟨by unfold DL.mask; simp [hl], fun i d h => by
  unfold DL.mask at h
  rw [List.getElem?_map] at h
  cases e : ρ[i]? with
  | none => rw [e] at h; cases h
  | some ev =>
    rw [e] at h
    have hv : ev.mask = some d := Option.some.inj h
    have q := S.slot i ev (app_get e)
    have hi : i < σ.length := by rw [hl]; exact (List.getElem?_eq_some_iff.mp e).1
    rw [List.getElem?_append_left hi] at q
    cases ev with
    | d y =>
      cases hv
      obtain ⟨v, a, b⟩ := q
      exact ⟨v, join_some a, b⟩
    | _ => cases hv⟩
/-- what an expression over the frozen heap has made is forgotten -/
theorem SOk.back (S : SOk K fa B F0 H0 F H A σ ρ s) (e : Ext fa (Fp F H A ρ) H F' H') (fo : FeedOk K fa F' H' s') : SOk K fa B F0 H0 F H' A σ ρ s' := by
  have hh : Same F H' := fun b o q => e.fh b o (e.ff b o (S.fp.1 b o q))
  have ext : Ext fa F H F H' := ⟨Same.refl _, hh, e.hh, fun _ _ => rfl, e.al⟩
  refine ⟨S.ext.trans ext, S.flr, fun φ q => ?_, S.len, fun i ev h => (S.slot i ev h).step ext, S.inj⟩
  obtain ⟨h1, h2, h3, h4⟩ := S.fd φ q
  obtain ⟨g1, g2, g3, g4⟩ := fo φ q
  exact ⟨h1, g2, g3, h4⟩

/-! ### the stack of values -/
theorem SlotOk.any {p q : Addr} {w : Option V} {ev : EV} (h : SlotOk K fa H0 F H p w ev) (n : ev.own = false) : SlotOk K fa H0 F H q w ev := by
  cases ev with
  | no => trivial
  | d x => exact h
  | ol xs => cases n
  | od xs => cases n
theorem SOk.push (S : SOk K fa B F0 H0 F H A σ ρ s) {x : D} {w : V} (r : Rep K fa F x w) : SOk K fa B F0 H0 F H A (σ ++ [some w]) (ρ ++ [.d x]) s := by
  refine ⟨S.ext, S.flr, S.fd, by simp [S.len], fun i ev h => ?_, fun i j ev ev' h h' ho ho' e => ?_⟩
  · by_cases hi : i < ρ.length
    · rw [List.getElem?_append_left hi] at h
      rw [List.getElem?_append_left (by rw [S.len]; exact hi)]
      exact S.slot i ev h
    · rw [List.getElem?_append_right (by omega)] at h
      have h0 : i - ρ.length = 0 := by
        have := (List.getElem?_eq_some_iff.mp h).1
        simp at this
        omega
      rw [h0] at h
      cases h
      rw [List.getElem?_append_right (by rw [S.len]; omega), S.len, h0]
      exact ⟨w, rfl, r⟩
  · have low : ∀ {k : Nat} {e : EV}, (ρ ++ [.d x])[k]? = some e → e.own = true → ρ[k]? = some e := fun {k e} hk ho => by
      by_cases hi : k < ρ.length
      · rw [List.getElem?_append_left hi] at hk
        exact hk
      · rw [List.getElem?_append_right (by omega)] at hk
        have h0 : k - ρ.length = 0 := by
          have := (List.getElem?_eq_some_iff.mp hk).1
          simp at this
          omega
        rw [h0] at hk
        cases hk
        cases ho
    exact S.inj i j ev ev' (low h ho) (low h' ho') ho ho' e
/-- a new object that is owned, on the stack -/
theorem SOk.pushO (S : SOk K fa B F0 H0 F H A σ ρ s) {ev : EV} {p : Addr} (np : ∀ i ev', ρ[i]? = some ev' → ev'.own = true → A i ≠ p) (r : SlotOk K fa H0 F H p (some (.ref p)) ev) :
    SOk K fa B F0 H0 F H (fun i => if i = ρ.length then p else A i) (σ ++ [some (.ref p)]) (ρ ++ [ev]) s := by
  have low : ∀ {k : Nat} {e : EV}, (ρ ++ [ev])[k]? = some e → (ρ[k]? = some e ∧ k ≠ ρ.length) ∨ (k = ρ.length ∧ e = ev) := fun {k e} hk => by
    by_cases hi : k < ρ.length
    · rw [List.getElem?_append_left hi] at hk
      exact .inl ⟨hk, by omega⟩
    · rw [List.getElem?_append_right (by omega)] at hk
      have h0 : k - ρ.length = 0 := by
        have := (List.getElem?_eq_some_iff.mp hk).1
        simp at this
        omega
      rw [h0] at hk
      cases hk
      exact .inr ⟨by omega, rfl⟩
  refine ⟨S.ext, S.flr, S.fd, by simp [S.len], fun i e h => ?_, fun i j e e' h h' ho ho' q => ?_⟩
  · rcases low h with ⟨h, hn⟩ | ⟨rfl, rfl⟩
    · rw [if_neg hn, List.getElem?_append_left (by rw [S.len]; exact (List.getElem?_eq_some_iff.mp h).1)]
      exact S.slot i e h
    · rw [if_pos rfl, List.getElem?_append_right (by rw [S.len]; omega), S.len, Nat.sub_self]
      exact r
  · rcases low h with ⟨g1, hn⟩ | ⟨hi, he⟩
    · rcases low h' with ⟨g2, hn'⟩ | ⟨hj, he'⟩
      · rw [if_neg hn, if_neg hn'] at q
        exact S.inj i j e e' g1 g2 ho ho' q
      · rw [if_neg hn, if_pos hj] at q
        exact absurd q (np i e g1 ho)
    · rcases low h' with ⟨g2, hn'⟩ | ⟨hj, he'⟩
      · rw [if_pos hi, if_neg hn'] at q
        exact absurd q.symm (np j e' g2 ho')
      · rw [hi, hj]
/-- the top of the stack goes to slot i -/
theorem SOk.pop {ev : EV} {w : V} (S : SOk K fa B F0 H0 F H A (σ ++ [some w]) (ρ ++ [ev]) s) (hl : σ.length = ρ.length) (i : Nat) : SOk K fa B F0 H0 F H (fun j => if j = i then A ρ.length else A j) (σ.set i (some w)) (ρ.set i ev) s := by
  have top : (ρ ++ [ev])[ρ.length]? = some ev := by simp
  have rt := S.slot _ _ top
  have et : (σ ++ [some w])[ρ.length]?.join = some w := by
    rw [← hl]
    simp
  rw [et] at rt
  have low : ∀ {k : Nat} {e : EV}, (ρ.set i ev)[k]? = some e → (k = i ∧ e = ev ∧ i < ρ.length) ∨ (k ≠ i ∧ ρ[k]? = some e ∧ k < ρ.length) := fun {k e} hk => by
    by_cases hi : i = k
    · subst hi
      by_cases hlt : i < ρ.length
      · rw [List.getElem?_set_self hlt] at hk
        cases hk
        exact .inl ⟨rfl, rfl, hlt⟩
      · rw [List.getElem?_eq_none (by simpa using hlt)] at hk
        cases hk
    · rw [List.getElem?_set_ne hi] at hk
      exact .inr ⟨Ne.symm hi, hk, (List.getElem?_eq_some_iff.mp hk).1⟩
  refine ⟨S.ext, S.flr, S.fd, by simp [hl], fun k e h => ?_, fun k j e e' h h' ho ho' q => ?_⟩
  · rcases low h with ⟨rfl, rfl, hlt⟩ | ⟨hn, h, hlt⟩
    · rw [if_pos rfl, List.getElem?_set_self (by omega)]
      exact rt
    · rw [if_neg hn, List.getElem?_set_ne (Ne.symm hn)]
      have z := S.slot k e (app_get h)
      rw [List.getElem?_append_left (by omega)] at z
      exact z
  · rcases low h with ⟨hk, he, hlt⟩ | ⟨hn, g1, hlt⟩
    · rcases low h' with ⟨hj, he', hlt'⟩ | ⟨hn', g2, hlt'⟩
      · rw [hk, hj]
      · rw [if_pos hk, if_neg hn'] at q
        have := S.inj ρ.length j _ _ top (app_get g2) (he ▸ ho) ho' q
        omega
    · rcases low h' with ⟨hj, he', hlt'⟩ | ⟨hn', g2, hlt'⟩
      · rw [if_neg hn, if_pos hj] at q
        have := S.inj k ρ.length _ _ (app_get g1) top ho (he' ▸ ho') q
        omega
      · rw [if_neg hn, if_neg hn'] at q
        exact S.inj k j _ _ (app_get g1) (app_get g2) ho ho' q
/-- the top of the stack is dropped -/
theorem SOk.drop {ev : EV} {w : Option V} (S : SOk K fa B F0 H0 F H A (σ ++ [w]) (ρ ++ [ev]) s) (hl : σ.length = ρ.length) : SOk K fa B F0 H0 F H A σ ρ s := by
  refine ⟨S.ext, S.flr, S.fd, hl, fun i e h => ?_, fun i j e e' h h' => S.inj i j e e' (app_get h) (app_get h')⟩
  have z := S.slot i e (app_get h)
  rw [List.getElem?_append_left (by rw [hl]; exact (List.getElem?_eq_some_iff.mp h).1)] at z
  exact z
/-- an owned object at slot i gets new content -/
theorem SOk.write (S : SOk K fa B F0 H0 F H A σ ρ s) {i : Nat} {ev ev' : EV} {o : HO} (h : ρ[i]? = some ev) (ho : ev.own = true) (ho' : ev'.own = true) (r : SlotOk K fa H0 F (upd H (A i) o) (A i) (some (.ref (A i))) ev') :
    SOk K fa B F0 H0 F (upd H (A i) o) A σ (ρ.set i ev') s := by
  obtain ⟨w0, f0, g0, n0, q0⟩ := (S.slot i ev h).own_at ho
  have hi : i < ρ.length := (List.getElem?_eq_some_iff.mp h).1
  have ne : ∀ b u, F b = some u → b ≠ A i := fun b u e z => by rw [z, f0] at e; cases e
  refine ⟨⟨S.ext.ff, fun b u e => by rw [upd_ne (ne b u e)]; exact S.ext.fh b u e, fun b u e n => ?_, S.ext.fr, fun b e => ?_⟩, S.flr, fun φ e => ?_, by simp [S.len], fun j e hj => ?_, fun j k e e' hj hk hoj hok q => ?_⟩
  · have : b ≠ A i := fun z => by rw [z, g0] at e; cases e
    rw [upd_ne this]
    exact S.ext.hh b u e n
  · by_cases hb : b = A i
    · subst hb; rw [upd_same]; simp
    · rw [upd_ne hb]; exact S.ext.al b e
  · obtain ⟨h1, h2, h3, h4⟩ := S.fd φ e
    refine ⟨h1, h2, ?_, h4⟩
    rw [upd_ne (n0 φ e)]
    exact h3
  · by_cases hji : i = j
    · subst hji
      rw [List.getElem?_set_self hi] at hj
      cases hj
      rw [w0]
      exact r
    · rw [List.getElem?_set_ne hji] at hj
      have z := S.slot j e hj
      have na : e.own = true → A j ≠ A i := fun hoj q => hji (S.inj i j ev e h hj ho hoj q.symm)
      cases e with
      | no => trivial
      | d x => exact z
      | ol xs =>
        obtain ⟨a, b, c, d, vs, g, rr⟩ := z
        exact ⟨a, b, c, d, vs, by rw [upd_ne (na rfl)]; exact g, rr⟩
      | od xs =>
        obtain ⟨a, b, c, d, vs, g, rr⟩ := z
        exact ⟨a, b, c, d, vs, by rw [upd_ne (na rfl)]; exact g, rr⟩
  · have low : ∀ {m : Nat} {u : EV}, (ρ.set i ev')[m]? = some u → u.own = true → ∃ u', ρ[m]? = some u' ∧ u'.own = true := fun {m u} hm hu => by
      by_cases hmi : i = m
      · subst hmi
        exact ⟨ev, h, ho⟩
      · rw [List.getElem?_set_ne hmi] at hm
        exact ⟨u, hm, hu⟩
    obtain ⟨u, hu, ou⟩ := low hj hoj
    obtain ⟨u', hu', ou'⟩ := low hk hok
    exact S.inj j k u u' hu hu' ou ou' q
/-- slot i is frozen for good -/
theorem SOk.freeze (S : SOk K fa B F0 H0 F H A σ ρ s) {i : Nat} {ev : EV} (h : ρ[i]? = some ev) : ∃ F', SOk K fa B F0 H0 F' H A σ (ρ.set i ev.fz) s := by
  by_cases ho : ev.own = true
  · obtain ⟨w0, f0, g0, n0, q0⟩ := (S.slot i ev h).own_at ho
    have hi : i < ρ.length := (List.getElem?_eq_some_iff.mp h).1
    cases eo : H (A i) with
    | none => exact absurd eo q0
    | some o =>
      have ff : Same F (upd F (A i) o) := fun b u e => by
        rw [upd_ne (ne_of_none e f0)]; exact e
      refine ⟨upd F (A i) o, ⟨S.ext.ff.trans ff, fun b u e => ?_, S.ext.hh, fun b e => ?_, S.ext.al⟩, S.flr.trans ff, fun φ e => ?_, by simp [S.len], fun j e hj => ?_, fun j k e e' hj hk hoj hok q => ?_⟩
      · by_cases hb : b = A i
        · subst hb; rw [upd_same] at e; rw [eo]; exact e
        · rw [upd_ne hb] at e; exact S.ext.fh b u e
      · have : b ≠ A i := fun z => e (z ▸ g0)
        rw [upd_ne this]; exact S.ext.fr b e
      · obtain ⟨h1, h2, h3, h4⟩ := S.fd φ e
        exact ⟨by rw [upd_ne (n0 φ e)]; exact h1, h2, h3, ff _ _ h4⟩
      · by_cases hji : i = j
        · subst hji
          rw [List.getElem?_set_self hi] at hj
          cases hj
          rw [w0]
          have z := S.slot i ev h
          cases ev with
          | ol xs =>
            obtain ⟨a, b, c, d, vs, g, rr⟩ := z
            rw [eo] at g
            cases g
            exact ⟨_, rfl, .lst upd_same (rr.mono ff)⟩
          | od xs =>
            obtain ⟨a, b, c, d, vs, g, rr⟩ := z
            rw [eo] at g
            cases g
            exact ⟨_, rfl, .dic (.inl upd_same) (rr.mono ff)⟩
          | _ => cases ho
        · rw [List.getElem?_set_ne hji] at hj
          have z := S.slot j e hj
          have na : e.own = true → A j ≠ A i := fun hoj q => hji (S.inj i j ev e h hj ho hoj q.symm)
          cases e with
          | no => trivial
          | d x =>
            obtain ⟨v, a, b⟩ := z
            exact ⟨v, a, b.mono ff⟩
          | ol xs =>
            obtain ⟨a, b, c, d, vs, g, rr⟩ := z
            exact ⟨a, by rw [upd_ne (na rfl)]; exact b, c, d, vs, g, rr.mono ff⟩
          | od xs =>
            obtain ⟨a, b, c, d, vs, g, rr⟩ := z
            exact ⟨a, by rw [upd_ne (na rfl)]; exact b, c, d, vs, g, rr.mono ff⟩
      · have low : ∀ {m : Nat} {u : EV}, (ρ.set i ev.fz)[m]? = some u → u.own = true → ρ[m]? = some u := fun {m u} hm hu => by
          by_cases hmi : i = m
          · subst hmi
            rw [List.getElem?_set_self hi] at hm
            cases hm
            cases ev <;> cases hu
          · rw [List.getElem?_set_ne hmi] at hm
            exact hm
        exact S.inj j k e e' (low hj hoj) (low hk hok) hoj hok q
  · have e : ev.fz = ev := by
      cases ev <;> first | rfl | exact absurd rfl ho
    have er : ρ.set i ev.fz = ρ := by
      rw [e]
      exact List.ext_getElem? fun j => by
        by_cases hj : i = j
        · subst hj
          rw [List.getElem?_set_self (List.getElem?_eq_some_iff.mp h).1, h]
        · rw [List.getElem?_set_ne hj]
    rw [er]
    exact ⟨F, S⟩
end
end DL

set_option Elab.async false
set_option linter.all false
set_option maxRecDepth 100000
set_option maxHeartbeats 2000000
/-! The data layer: values at statements, statements. -/
namespace DL
open PySem PySem.Spec PyProof.Rows L2

/-! ### values -/
def GoodV (X : Cx) (fa : Option FA) (W : XK) (B F0 H0 : Hp) (σ vs : L2.St) (evs : Sts) (r : Res (EV × Sts)) (Q : VK) : Prop :=
  match r with
  | .bad => False
  | .ok p s' => ∀ w F' H' A', SOk X.K fa B F0 H0 F' H' A' (σ ++ vs ++ [some w]) (p.2 ++ evs ++ [p.1]) s' → Q w H'
  | .err e s' => ∀ cls dd F' H', Ext fa F0 H0 F' H' → FeedOk X.K fa F' H' s' → RepX X.K X.mg fa F' H' e cls dd → W cls dd H'
def VOk (X : Cx) (fa : Option FA) (W : XK) (t : TE) (f : Sts → M (EV × Sts)) : Prop :=
  ∀ (B F0 H0 F H : Hp) (A : Nat → Addr) (σ vs : L2.St) (ρ evs : Sts) (s : FS) (Q : VK), σ.length = ρ.length → SOk X.K fa B F0 H0 F H A (σ ++ vs) (ρ ++ evs) s → GoodV X fa W B F0 H0 σ vs evs (f ρ s) Q → t σ H Q
/-- AN EXPRESSION AT A STATEMENT: what it gives (data, or a new list that is then owned), and what it leaves of the slots -/
def VJ (X : Cx) (fa : Option FA) (W : XK) (e : Expr) (f : Sts → M (EV × Sts)) : Prop := ∃ t, PE X e t ∧ VOk X fa W t f

def scalD : D → Option D
  | .non => some .non
  | .bl b => some (.bl b)
  | .int i => some (.int i)
  | .str x => some (.str x)
  | _ => none
def vMask (f : Env' → M D) : Sts → M (EV × Sts) := fun ρ => (f (mask ρ)).bind fun x => M.pure (.d x, ρ)
def vView (f : Env' → M D) : Sts → M (EV × Sts) := fun ρ => (f (view ρ)).bind fun x => (M.lift (scalD x)).bind fun x => M.pure (.d x, ρ)
def vNew (f : Env' → M (List D)) : Sts → M (EV × Sts) := fun ρ => (f (mask ρ)).bind fun xs => M.pure (.ol xs, ρ)

/-- a new list -/
def GoodN (X : Cx) (fa : Option FA) (W : XK) (F H : Hp) (r : Res (List D)) (Q : VK) : Prop :=
  match r with
  | .bad => False
  | .ok xs s' => ∀ p vs F' H', Ext fa F H F' H' → FeedOk X.K fa F' H' s' → H p = none → F' p = none → H' p = some (.lst vs) → RepL X.K fa F' xs vs → Q (.ref p) H'
  | .err e s' => ∀ cls dd F' H', Ext fa F H F' H' → FeedOk X.K fa F' H' s' → RepX X.K X.mg fa F' H' e cls dd → W cls dd H'
def NOk (X : Cx) (fa : Option FA) (W : L2.St → XK) (t : TE) (f : Env' → M (List D)) : Prop :=
  ∀ (σ : L2.St) (F H : Hp) (ρ : Env') (s : FS) (Q : VK), Same F H → FeedOk X.K fa F H s → EnvOk X.K fa F σ ρ → GoodN X fa (W σ) F H (f ρ s) Q → t σ H Q
/-- AN EXPRESSION THAT GIVES A NEW LIST -/
def ND (X : Cx) (fa : Option FA) (W : L2.St → XK) (e : Expr) (f : Env' → M (List D)) : Prop := ∃ t, PE X e t ∧ NOk X fa W t f

section
variable {X : Cx} {fa : Option FA} {W : XK} {Wσ : L2.St → XK} {a b c e o : Expr} {es rest : List Expr} {pos p apos : Pos} {F H F' H' : Hp}
theorem GoodN.tgt {Q : VK} : Tgt X fa W (fun F H (r : Res (List D)) => GoodN X fa W F H r Q) := by
  refine ⟨fun _ _ h => h, fun _ _ _ _ h => h, fun F H F' H' r e h => ?_⟩
  cases r with
  | bad => exact h
  | ok d s => exact fun p vs F2 H2 e2 o2 hp fp hq r => h p vs F2 H2 (e.trans e2) o2 (by
      cases q : H p with
      | none => rfl
      | some u => exact absurd hp (e.al p (by rw [q]; simp))) fp hq r
  | err x s => exact fun c dd F2 H2 e2 => h c dd F2 H2 (e.trans e2)
/-- frozen at once, it is data -/
theorem NOk.tok {t : TE} {f : Env' → M (List D)} (h : NOk X fa Wσ t f) : TOk X fa Wσ t (fun ρ => (f ρ).bind fun xs => M.pure (.lst xs)) := by
  intro σ F H ρ s Q h1 h2 h3 hg
  refine h σ F H ρ s Q h1 h2 h3 ?_
  change Good X fa (Wσ σ) F H ((f ρ s).bnd _) Q at hg
  generalize f ρ s = r at hg
  cases r with
  | bad => exact hg
  | err e s' => exact hg
  | ok xs s' =>
    intro p vs F' H' e fo hp fp hq r
    have ff : Same F' (upd F' p (.lst vs)) := fun b u z => by rw [upd_ne (ne_of_none z fp)]; exact z
    refine hg (.ref p) (upd F' p (.lst vs)) H' ⟨e.ff.trans ff, fun b u z => ?_, e.hh, fun b z => ?_, e.al⟩ (fun φ z => ?_) (.lst upd_same (r.mono ff))
    · by_cases hb : b = p
      · subst hb; rw [upd_same] at z; rw [hq]; exact z
      · rw [upd_ne hb] at z; exact e.fh b u z
    · have : b ≠ p := fun q => z (q ▸ hp)
      rw [upd_ne this]; exact e.fr b z
    · obtain ⟨g1, g2, g3, g4⟩ := fo φ z
      obtain ⟨k1, k2, k3, k4⟩ := h2 φ z
      have : φ.a ≠ p := ne_of_none k3 hp
      exact ⟨by rw [upd_ne this]; exact g1, g2, g3, ff _ _ g4⟩
theorem ND.ed {f : Env' → M (List D)} (h : ND X fa Wσ e f) : ED X fa Wσ e (fun ρ => (f ρ).bind fun xs => M.pure (.lst xs)) := by
  obtain ⟨t, p, k⟩ := h
  exact ⟨t, p, k.tok⟩
def mkN (xs : List D) : Option (List D) := if xs.length ≤ sizeLine then some xs else none
/-- [e, ..], new -/
theorem nd_lst {fl : Env' → M (List D)} (ha : LD X fa Wσ es fl) : ND X fa Wσ (.List es pos) (fun ρ => (fl ρ).bind fun xs => M.lift (mkN xs)) := by
  obtain ⟨ta, pa, ka⟩ := ha
  refine ⟨_, pe_lst pa, fun σ F H ρ s Q h1 h2 h3 h => ?_⟩
  refine ka.then GoodN.tgt h1 h2 h3 h fun x s1 v F1 H1 e1 o1 r1 v1 h' => ?_
  by_cases hl : x.length ≤ sizeLine
  · rw [show mkN x = some x from if_pos hl] at h'
    refine ⟨by rw [← r1.length]; exact hl, fun p hp => ?_⟩
    have fp : F1 p = none := Same.free e1.fh hp
    refine h' p v F1 (upd H1 p (.lst v)) ⟨Same.refl _, fun b u z => ?_, fun b u z _ => ?_, fun _ _ => rfl, fun b z => ?_⟩ (o1.ext_same (Same.refl _) (fun b u z => by rw [upd_ne (ne_of_none z hp)]; exact z) fun _ _ => rfl) hp fp upd_same r1
    · rw [upd_ne (ne_of_none z fp)]; exact e1.fh b u z
    · rw [upd_ne (ne_of_none z hp)]; exact z
    · have : b ≠ p := fun q => z (q ▸ hp)
      rw [upd_ne this]; exact z
  · rw [show mkN x = none from if_neg hl] at h'
    exact h'.elim

theorem vok_mask {t : TE} {f : Env' → M D} (h : TOk X fa (fun _ => W) t f) : VOk X fa W t (vMask f) := by
  intro B F0 H0 F H A σ vs ρ evs s Q hl S hg
  refine h σ F H (mask ρ) s Q S.ext.fh S.fd (S.mask hl) ?_
  change GoodV X fa W B F0 H0 σ vs evs ((f (mask ρ) s).bnd _) Q at hg
  generalize f (mask ρ) s = r at hg
  cases r with
  | bad => exact hg
  | err e s' => exact fun cls dd F' H' e fo rx => hg cls dd F' H' (S.ext.trans e) fo rx
  | ok x s' => exact fun v F' H' e fo r => hg v F' H' A ((S.step e fo).push r)
theorem vj_mask {f : Env' → M D} (h : ED X fa (fun _ => W) e f) : VJ X fa W e (vMask f) := by
  obtain ⟨t, p, k⟩ := h
  exact ⟨t, p, vok_mask k⟩
theorem scal_rep {K : PySem.W.Frag} {fa : Option FA} {F F' : Hp} {x y : D} {v : V} (h : scalD x = some y) (r : Rep K fa F x v) : Rep K fa F' y v := by
  cases r <;> cases h <;> constructor
theorem vok_view {t : TE} {f : Env' → M D} (h : TOk X fa (fun _ => W) t f) : VOk X fa W t (vView f) := by
  intro B F0 H0 F H A σ vs ρ evs s Q hl S hg
  obtain ⟨ff, fh, fo0, ex0⟩ := S.fp
  refine h σ (Fp F H A (ρ ++ evs)) H (view ρ) s Q fh fo0 (S.view hl) ?_
  change GoodV X fa W B F0 H0 σ vs evs ((f (view ρ) s).bnd _) Q at hg
  generalize f (view ρ) s = r at hg
  cases r with
  | bad => exact hg
  | err e s' => exact fun cls dd F' H' e fo rx => hg cls dd F' H' (ex0.trans e) fo rx
  | ok x s' =>
    intro v F' H' e fo r
    change GoodV X fa W B F0 H0 σ vs evs ((M.lift (scalD x) s').bnd _) Q at hg
    cases q : scalD x with
    | none => rw [q] at hg; exact hg.elim
    | some y =>
      rw [q] at hg
      exact hg v F H' A ((S.back e fo).push (scal_rep q r))
theorem vj_view {f : Env' → M D} (h : ED X fa (fun _ => W) e f) : VJ X fa W e (vView f) := by
  obtain ⟨t, p, k⟩ := h
  exact ⟨t, p, vok_view k⟩
theorem vok_new {t : TE} {f : Env' → M (List D)} (h : NOk X fa (fun _ => W) t f) : VOk X fa W t (vNew f) := by
  intro B F0 H0 F H A σ vs ρ evs s Q hl S hg
  refine h σ F H (mask ρ) s Q S.ext.fh S.fd (S.mask hl) ?_
  change GoodV X fa W B F0 H0 σ vs evs ((f (mask ρ) s).bnd _) Q at hg
  generalize f (mask ρ) s = r at hg
  cases r with
  | bad => exact hg
  | err e s' => exact fun cls dd F' H' e fo rx => hg cls dd F' H' (S.ext.trans e) fo rx
  | ok xs s' =>
    intro p vs' F' H' e fo hp fp hq r
    have S1 := S.step e fo
    have h0 : H0 p = none := by
      cases z : H0 p with
      | none => rfl
      | some u => exact absurd hp (S.ext.al p (by rw [z]; simp))
    refine hg (.ref p) F' H' _ (S1.pushO (ev := .ol xs) (p := p) (fun i ev' hi ho q => ?_) ⟨rfl, fp, h0, fun φ z q => ?_, vs', hq, r⟩)
    · exact ((S.slot i ev' hi).own_at ho).2.2.2.2 (q ▸ hp)
    · obtain ⟨g1, g2, g3, g4⟩ := S.fd φ z
      rw [q, hp] at g3
      cases g3
theorem vj_new {f : Env' → M (List D)} (h : ND X fa (fun _ => W) e f) : VJ X fa W e (vNew f) := by
  obtain ⟨t, p, k⟩ := h
  exact ⟨t, p, vok_new k⟩
def vNewD : Sts → M (EV × Sts) := fun ρ => M.pure (.od [], ρ)
/-- {}, owned -/
theorem vj_dict : VJ X fa W (.Dict [] [] pos) vNewD := by
  refine ⟨_, pe_dnewK, fun B F0 H0 F H A σ vs ρ evs s Q hl S hg p hp => ?_⟩
  have fp : F p = none := Same.free S.ext.fh hp
  have h0 : H0 p = none := by
    cases z : H0 p with
    | none => rfl
    | some u => exact absurd hp (S.ext.al p (by rw [z]; simp))
  have ex : Ext fa F H F (upd H p (.dK [])) := ⟨Same.refl _, fun b u z => by rw [upd_ne (ne_of_none z fp)]; exact S.ext.fh b u z, fun b u z _ => by rw [upd_ne (ne_of_none z hp)]; exact z, fun _ _ => rfl, fun b z => by
    have : b ≠ p := fun q => z (q ▸ hp)
    rw [upd_ne this]; exact z⟩
  have S1 := S.step ex (S.fd.ext_same (Same.refl _) (fun b u z => by rw [upd_ne (ne_of_none z hp)]; exact z) fun _ _ => rfl)
  refine hg (.ref p) F _ _ (S1.pushO (ev := .od []) (p := p) (fun i ev' hi ho q => ?_) ⟨rfl, fp, h0, fun φ z q => ?_, [], upd_same, .nil⟩)
  · exact ((S.slot i ev' hi).own_at ho).2.2.2.2 (q ▸ hp)
  · obtain ⟨g1, g2, g3, g4⟩ := S.fd φ z
    rw [q, hp] at g3
    cases g3

/-! ### what is wanted at a statement -/
/-- as Tgt, for statements' values -/
structure TgtV (X : Cx) (fa : Option FA) (W : XK) (F0 H0 : Hp) {β : Type} (G : Res β → Prop) : Prop where
  bad : ¬ G .bad
  err : ∀ e s, G (.err e s) → ∀ cls dd F' H', Ext fa F0 H0 F' H' → FeedOk X.K fa F' H' s → RepX X.K X.mg fa F' H' e cls dd → W cls dd H'
theorem GoodV.tgt {B F0 H0 : Hp} {σ vs : L2.St} {evs : Sts} {Q : VK} : TgtV X fa W F0 H0 (fun r => GoodV X fa W B F0 H0 σ vs evs r Q) := ⟨fun h => h, fun _ _ h => h⟩
/-- run the value, then the rest -/
theorem VOk.then {t : TE} {f : Sts → M (EV × Sts)} {β : Type} {g : EV × Sts → M β} {G : Res β → Prop} {B F0 H0 F H : Hp} {A : Nat → Addr} {σ vs : L2.St} {ρ evs : Sts} {s : FS} {Q : VK} (h : VOk X fa W t f) (T : TgtV X fa W F0 H0 G) (hl : σ.length = ρ.length)
    (S : SOk X.K fa B F0 H0 F H A (σ ++ vs) (ρ ++ evs) s) (hg : G ((f ρ s).bnd g))
    (k : ∀ ev ρ' s' w F' H' A', SOk X.K fa B F0 H0 F' H' A' (σ ++ vs ++ [some w]) (ρ' ++ evs ++ [ev]) s' → σ.length = ρ'.length → G (g (ev, ρ') s') → Q w H') : t σ H Q := by
  refine h B F0 H0 F H A σ vs ρ evs s Q hl S ?_
  generalize f ρ s = r at hg
  cases r with
  | bad => exact absurd hg T.bad
  | err e s' => exact T.err e s' hg
  | ok q s' =>
    intro w F' H' A' S'
    have l1 := S'.len
    have l2 := S.len
    simp only [List.length_append, List.length_singleton] at l1 l2
    exact k q.1 q.2 s' w F' H' A' S' (by omega) hg
end

/-! ### statements -/
inductive Fl where
  | nx
  | rt (d : D)
  | bk
  | ct
def GoodS (X : Cx) (fa : Option FA) (W : XK) (B F0 H0 : Hp) (r : Res (Fl × Sts)) (Dn : Ends) : Prop :=
  match r with
  | .bad => False
  | .ok p s' =>
    match p.1 with
    | .nx => ∀ σ' F' H' A', SOk X.K fa B F0 H0 F' H' A' σ' p.2 s' → Dn.nx σ' H'
    | .bk => ∀ σ' F' H' A', SOk X.K fa B F0 H0 F' H' A' σ' p.2 s' → Dn.bk σ' H'
    | .ct => ∀ σ' F' H' A', SOk X.K fa B F0 H0 F' H' A' σ' p.2 s' → Dn.ct σ' H'
    | .rt d => ∀ v F' H', Ext fa F0 H0 F' H' → FeedOk X.K fa F' H' s' → Rep X.K fa F' d v → (∃ F2 A2 σ2, SOk X.K fa B F0 H0 F2 H' A2 σ2 p.2 s') → Dn.rt v H'
  | .err e s' => ∀ cls dd F' H', Ext fa F0 H0 F' H' → FeedOk X.K fa F' H' s' → RepX X.K X.mg fa F' H' e cls dd → W cls dd H'
def SOkT (X : Cx) (fa : Option FA) (W : XK) (t : TS) (g : Sts → M (Fl × Sts)) : Prop :=
  ∀ (B F0 H0 F H : Hp) (A : Nat → Addr) (σ : L2.St) (ρ : Sts) (s : FS) (Dn : Ends), SOk X.K fa B F0 H0 F H A σ ρ s → GoodS X fa W B F0 H0 (g ρ s) Dn → t Dn σ H
/-- A STATEMENT DOES g -/
def SJ (X : Cx) (fa : Option FA) (W : XK) (st : Stmt) (g : Sts → M (Fl × Sts)) : Prop := ∃ t, PS X st t ∧ SOkT X fa W t g
def SSJ (X : Cx) (fa : Option FA) (W : XK) (st : List Stmt) (g : Sts → M (Fl × Sts)) : Prop := ∃ t, PSs X st t ∧ SOkT X fa W t g

def gNext : Sts → M (Fl × Sts) := fun ρ => M.pure (.nx, ρ)
def gSeq (g g' : Sts → M (Fl × Sts)) : Sts → M (Fl × Sts) := fun ρ => (g ρ).bind fun p => match p.1 with
  | .nx => g' p.2
  | _ => M.pure p
def gSet (i : Nat) (f : Sts → M (EV × Sts)) : Sts → M (Fl × Sts) := fun ρ => (f ρ).bind fun p => M.pure (.nx, p.2.set i p.1)
def gDrop (f : Sts → M (EV × Sts)) : Sts → M (Fl × Sts) := fun ρ => (f ρ).bind fun p => M.pure (.nx, p.2)
def gIf (c : Env' → M Bool) (g g' : Sts → M (Fl × Sts)) : Sts → M (Fl × Sts) := fun ρ => (c (view ρ)).bind fun k => if k = true then g ρ else g' ρ
def gRet (f : Env' → M D) : Sts → M (Fl × Sts) := fun ρ => (f (view ρ)).bind fun x => M.pure (.rt x, ρ)
def gRetN : Sts → M (Fl × Sts) := fun ρ => M.pure (.rt .non, ρ)
def gBreak : Sts → M (Fl × Sts) := fun ρ => M.pure (.bk, ρ)
def gCont : Sts → M (Fl × Sts) := fun ρ => M.pure (.ct, ρ)
def frz (i : Nat) (ρ : Sts) : Sts := match ρ[i]? with
  | some ev => ρ.set i ev.fz
  | none => ρ
def gFrz (i : Nat) (g : Sts → M (Fl × Sts)) : Sts → M (Fl × Sts) := fun ρ => g (frz i ρ)

section
variable {X : Cx} {fa : Option FA} {W : XK} {a b c e o : Expr} {es rest : List Expr} {pos p apos : Pos} {st : Stmt} {sts sts' : List Stmt} {g g' : Sts → M (Fl × Sts)} {f : Sts → M (EV × Sts)} {B B' F0 H0 : Hp} {Dn : Ends}
theorem GoodS.tgt : TgtV X fa W F0 H0 (fun r => GoodS X fa W B F0 H0 r Dn) := ⟨fun h => h, fun _ _ h => h⟩
theorem GoodS.base (b : Same B B') {r : Res (Fl × Sts)} (h : GoodS X fa W B F0 H0 r Dn) : GoodS X fa W B' F0 H0 r Dn := by
  cases r with
  | bad => exact h
  | err e s => exact h
  | ok q s =>
    obtain ⟨fl, ρ⟩ := q
    cases fl with
    | nx => exact fun σ' F' H' A' S => h σ' F' H' A' (S.base b)
    | bk => exact fun σ' F' H' A' S => h σ' F' H' A' (S.base b)
    | ct => exact fun σ' F' H' A' S => h σ' F' H' A' (S.base b)
    | rt d => exact fun v F' H' e fo r ⟨F2, A2, σ2, S⟩ => h v F' H' e fo r ⟨F2, A2, σ2, S.base b⟩
theorem ssj_nil : SSJ X fa W [] gNext := ⟨_, pss_nil, fun B F0 H0 F H A σ ρ s Dn S h => h σ F H A S⟩
theorem sokt_seq {t u : TS} (h1 : SOkT X fa W t g) (h2 : SOkT X fa W u g') : SOkT X fa W (tSeq t u) (gSeq g g') := by
  intro B F0 H0 F H A σ ρ s Dn S h
  refine h1 B F0 H0 F H A σ ρ s _ S ?_
  change GoodS X fa W B F0 H0 ((g ρ s).bnd _) Dn at h
  generalize g ρ s = r at h
  cases r with
  | bad => exact h
  | err e s' => exact h
  | ok q s' =>
    obtain ⟨fl, ρ'⟩ := q
    cases fl with
    | nx => exact fun σ' F' H' A' S' => h2 B F0 H0 F' H' A' σ' ρ' s' Dn S' h
    | bk => exact h
    | ct => exact h
    | rt d => exact h
theorem ssj_cons (h1 : SJ X fa W st g) (h2 : SSJ X fa W sts g') : SSJ X fa W (st :: sts) (gSeq g g') := by
  obtain ⟨t, p, k⟩ := h1
  obtain ⟨t', p', k'⟩ := h2
  exact ⟨_, pss_cons p p', sokt_seq k k'⟩
theorem ssj_one (h1 : SJ X fa W st g) : SSJ X fa W [st] g := by
  obtain ⟨t, p, k⟩ := h1
  exact ⟨_, pss_one p, k⟩
/-- slot i is frozen ahead of the rest -/
theorem ssj_frz (i : Nat) (h : SSJ X fa W sts g) : SSJ X fa W sts (gFrz i g) := by
  obtain ⟨t, p, k⟩ := h
  refine ⟨t, p, fun B F0 H0 F H A σ ρ s Dn S hg => ?_⟩
  unfold gFrz frz at hg
  cases e : ρ[i]? with
  | none =>
    rw [e] at hg
    exact k B F0 H0 F H A σ ρ s Dn S hg
  | some ev =>
    rw [e] at hg
    obtain ⟨F', S'⟩ := S.freeze e
    exact k B F0 H0 F' H A σ _ s Dn S' hg
theorem sj_pass : SJ X fa W (.Pass pos) gNext := ⟨_, ps_pass, fun B F0 H0 F H A σ ρ s Dn S h => h σ F H A S⟩
theorem sj_break : SJ X fa W (.Break pos) gBreak := ⟨_, ps_break, fun B F0 H0 F H A σ ρ s Dn S h => h σ F H A S⟩
theorem sj_cont : SJ X fa W (.Continue pos) gCont := ⟨_, ps_continue, fun B F0 H0 F H A σ ρ s Dn S h => h σ F H A S⟩
theorem sj_doc {x : Str} {j : Nat} {pos' : Pos} : SJ X fa W (.Expr (.Constant (.str x) j pos) pos') gNext := ⟨_, ps_doc, fun B F0 H0 F H A σ ρ s Dn S h => h σ F H A S⟩
theorem app0 {α : Type} {l : List α} : l ++ [] = l := List.append_nil l
/-- a name = a value, by the statement's reading -/
theorem sj_asg {te : TE} {i : Nat} (hp : PS X st (tAsg te (gName i))) (hv : VOk X fa W te f) : SJ X fa W st (gSet i f) := by
  refine ⟨_, hp, fun B F0 H0 F H A σ ρ s Dn S hg => ?_⟩
  refine hv.then (vs := []) (evs := []) GoodS.tgt S.len (by rw [app0, app0]; exact S) hg fun ev ρ' s' w F' H' A' S' hl h' => ?_
  rw [app0, app0] at S'
  exact h' _ F' H' _ (S'.pop hl i)
theorem sj_set {i : Nat} {x : Str} {pos' : Pos} (hN : X.N.Nodup) (hv : VJ X fa W e f) (hi : X.N[i]? = some x := by rfl) (hx : Loc X.env.scope x := by first | exact .inl rfl | exact .inr rfl) (hs : swapsWith e (some (.Name x pos')) pos.line X.env = pure false := by rfl)
    (hf : X.fn x = true ∨ X.env.scope.names.lookup x = some .local := by first | exact .inl rfl | exact .inr rfl | assumption) : SJ X fa W (.Assign [.Name x pos'] e pos) (gSet i f) := by
  obtain ⟨t, p, k⟩ := hv
  exact sj_asg (ps_set hN hi hx p hs hf) k
theorem sj_expr (hv : VJ X fa W e f) (hs : swapsWith e none pos.line X.env = pure false := by rfl) : SJ X fa W (.Expr e pos) (gDrop f) := by
  obtain ⟨t, p, k⟩ := hv
  refine ⟨_, ps_expr p hs, fun B F0 H0 F H A σ ρ s Dn S hg => ?_⟩
  refine k.then (vs := []) (evs := []) GoodS.tgt S.len (by rw [app0, app0]; exact S) hg fun ev ρ' s' w F' H' A' S' hl h' => ?_
  rw [app0, app0] at S'
  exact h' _ F' H' _ (S'.drop hl)
theorem sj_if {c1 : Env' → M Bool} (hc : TD X fa (fun _ => W) c c1) (ha : SSJ X fa W sts g) (hb : SSJ X fa W sts' g') : SJ X fa W (.If c sts sts' pos) (gIf c1 g g') := by
  obtain ⟨tc, pc, kc⟩ := hc
  obtain ⟨ta, pa, ka⟩ := ha
  obtain ⟨tb, pb, kb⟩ := hb
  refine ⟨_, ps_if pc pa pb, fun B F0 H0 F H A σ ρ s Dn S hg => ?_⟩
  obtain ⟨ff, fh, fo0, ex0⟩ := S.fp
  have S0 : SOk X.K fa B F0 H0 F H A (σ ++ []) (ρ ++ []) s := by rw [app0, app0]; exact S
  have en := S0.view S.len
  rw [app0] at en
  refine kc σ (Fp F H A ρ) H (view ρ) s _ fh fo0 en ?_
  change GoodS X fa W B F0 H0 ((c1 (view ρ) s).bnd _) Dn at hg
  generalize c1 (view ρ) s = r at hg
  cases r with
  | bad => exact hg
  | err e s' => exact fun cls dd F' H' e fo rx => hg cls dd F' H' (ex0.trans e) fo rx
  | ok k s' =>
    intro F' H' e fo
    have S1 := S.back e fo
    cases k with
    | true => exact iteT (ka B F0 H0 F H' A σ ρ s' Dn S1 hg)
    | false => exact iteF (kb B F0 H0 F H' A σ ρ s' Dn S1 hg)
theorem sj_ret {f1 : Env' → M D} (ha : ED X fa (fun _ => W) e f1) : SJ X fa W (.Return (some e) pos) (gRet f1) := by
  obtain ⟨ta, pa, ka⟩ := ha
  refine ⟨_, ps_ret pa, fun B F0 H0 F H A σ ρ s Dn S hg => ?_⟩
  obtain ⟨ff, fh, fo0, ex0⟩ := S.fp
  have S0 : SOk X.K fa B F0 H0 F H A (σ ++ []) (ρ ++ []) s := by rw [app0, app0]; exact S
  have en := S0.view S.len
  rw [app0] at en
  refine ka σ (Fp F H A ρ) H (view ρ) s _ fh fo0 en ?_
  change GoodS X fa W B F0 H0 ((f1 (view ρ) s).bnd _) Dn at hg
  generalize f1 (view ρ) s = r at hg
  cases r with
  | bad => exact hg
  | err e s' => exact fun cls dd F' H' e fo rx => hg cls dd F' H' (ex0.trans e) fo rx
  | ok x s' => exact fun v F' H' e fo r => hg v F' H' (ex0.trans e) fo r ⟨F, A, σ, S.back e fo⟩
theorem sj_retN : SJ X fa W (.Return none pos) gRetN := ⟨_, ps_retN, fun B F0 H0 F H A σ ρ s Dn S h => h .non F H S.ext S.fd .non ⟨F, A, σ, S⟩⟩
end
end DL

set_option Elab.async false
set_option linter.all false
set_option maxRecDepth 100000
set_option maxHeartbeats 2000000
/-! The data layer: targets, what is walked, for, comprehensions. -/
namespace DL
open PySem PySem.Spec PyProof.Rows L2

/-! ### targets -/
abbrev Asg := List (Nat × D)
inductive RepA (K : PySem.W.Frag) (fa : Option FA) (F : Hp) : Asg → List (Nat × V) → Prop
  | nil : RepA K fa F [] []
  | cons {i : Nat} {d : D} {v : V} {as : Asg} {ws : List (Nat × V)} : Rep K fa F d v → RepA K fa F as ws → RepA K fa F ((i, d) :: as) ((i, v) :: ws)
def setV : List (Nat × V) → L2.St → L2.St
  | [], σ => σ
  | (i, v) :: r, σ => setV r (σ.set i (some v))
def setE : Asg → Env' → Env'
  | [], ρ => ρ
  | (i, d) :: r, ρ => setE r (ρ.set i (some d))
def setS : Asg → Sts → Sts
  | [], ρ => ρ
  | (i, d) :: r, ρ => setS r (ρ.set i (.d d))
section
variable {K : PySem.W.Frag} {fa : Option FA} {B F0 H0 F H : Hp} {s : FS}
theorem RepA.append {as bs : Asg} {ws us : List (Nat × V)} (a : RepA K fa F as ws) (b : RepA K fa F bs us) : RepA K fa F (as ++ bs) (ws ++ us) := by
  induction a with
  | nil => exact b
  | cons r _ ih => exact .cons r ih
theorem setV_append : ∀ (ws us : List (Nat × V)) (σ : L2.St), setV (ws ++ us) σ = setV us (setV ws σ)
  | [], _, _ => rfl
  | (i, v) :: r, us, σ => setV_append r us _
theorem EnvOk.setE {as : Asg} {ws : List (Nat × V)} (r : RepA K fa F as ws) : ∀ {σ : L2.St} {ρ : Env'}, EnvOk K fa F σ ρ → EnvOk K fa F (setV ws σ) (DL.setE as ρ) := by
  induction r with
  | nil => exact fun h => h
  | cons r _ ih => exact fun h => ih (h.set r)
theorem SOk.set {A : Nat → Addr} {σ : L2.St} {ρ : Sts} (S : SOk K fa B F0 H0 F H A σ ρ s) {x : D} {v : V} (r : Rep K fa F x v) (i : Nat) : ∃ A', SOk K fa B F0 H0 F H A' (σ.set i (some v)) (ρ.set i (.d x)) s :=
  ⟨_, (S.push r).pop S.len i⟩
theorem SOk.setS {as : Asg} {ws : List (Nat × V)} (r : RepA K fa F as ws) : ∀ {A : Nat → Addr} {σ : L2.St} {ρ : Sts}, SOk K fa B F0 H0 F H A σ ρ s → ∃ A', SOk K fa B F0 H0 F H A' (setV ws σ) (DL.setS as ρ) s := by
  induction r with
  | nil => exact fun h => ⟨_, h⟩
  | cons r _ ih =>
    intro A σ ρ h
    obtain ⟨A', h'⟩ := h.set r _
    exact ih h'
end
def GOk (X : Cx) (ns : List Nat) (g : TG) (b : D → Option Asg) : Prop :=
  ∀ (fa : Option FA) (F H : Hp) (x : D) (v : V) (σ : L2.St) (Q : L2.St → Hp → Prop) (as : Asg), Same F H → Rep X.K fa F x v → b x = some as → (∀ ws, RepA X.K fa F as ws → as.map (·.1) = ns → Q (setV ws σ) H) → g v σ H Q
def GsOk (X : Cx) (ns : List Nat) (g : TGs) (b : List D → Option Asg) : Prop :=
  ∀ (fa : Option FA) (F H : Hp) (x : List D) (v : List V) (σ : L2.St) (Q : L2.St → Hp → Prop) (as : Asg), Same F H → RepL X.K fa F x v → b x = some as → (∀ ws, RepA X.K fa F as ws → as.map (·.1) = ns → Q (setV ws σ) H) → g v σ H Q
/-- A TARGET: it takes an item apart into slots ns -/
def TJ (X : Cx) (tg : Expr) (ns : List Nat) (b : D → Option Asg) : Prop := ∃ g, PG X tg g ∧ GOk X ns g b
def TsJ (X : Cx) (ts : List Expr) (ns : List Nat) (b : List D → Option Asg) : Prop := ∃ g, PGs X ts g ∧ GsOk X ns g b
def bName (i : Nat) : D → Option Asg := fun x => some [(i, x)]
def bNil : List D → Option Asg
  | [] => some []
  | _ => none
def bCons (b : D → Option Asg) (bs : List D → Option Asg) : List D → Option Asg
  | [] => none
  | x :: xs => (b x).bind fun a => (bs xs).bind fun r => some (a ++ r)
def bTup (bs : List D → Option Asg) : D → Option Asg
  | .tup xs => bs xs
  | _ => none
section
variable {X : Cx} {tg e iter : Expr} {ts es : List Expr} {ns ms : List Nat} {b : D → Option Asg} {bs : List D → Option Asg} {pos : Pos}
theorem tj_name {i : Nat} {x : Str} (hN : X.N.Nodup) (hi : X.N[i]? = some x := by rfl) (hx : Loc X.env.scope x := by first | exact .inl rfl | exact .inr rfl) (hf : X.fn x = true ∨ X.env.scope.names.lookup x = some .local := by first | exact .inl rfl | exact .inr rfl | assumption) : TJ X (.Name x pos) [i] (bName i) := by
  refine ⟨_, pg_name hN hi hx hf, fun fa F H x v σ Q as h r e k => ?_⟩
  cases e
  exact k [(i, v)] (.cons r .nil) rfl
theorem tsj_nil : TsJ X [] [] bNil := by
  refine ⟨_, pgs_nil, fun fa F H x v σ Q as h r e k => ?_⟩
  cases r with
  | nil => cases e; exact ⟨rfl, k [] .nil rfl⟩
  | cons _ _ => cases e
theorem tsj_cons (h1 : TJ X tg ns b) (h2 : TsJ X ts ms bs) (hs : (assignEach (tg :: ts) X.env).map (·.2) = assign tg X.env :: (assignEach ts X.env).map (·.2) := by rfl) : TsJ X (tg :: ts) (ns ++ ms) (bCons b bs) := by
  obtain ⟨g, p, k⟩ := h1
  obtain ⟨g', p', k'⟩ := h2
  refine ⟨_, pgs_cons p p' hs, fun fa F H x v σ Q as h r e q => ?_⟩
  cases r with
  | nil => cases e
  | @cons d v ds vs r rr =>
    change ((b d).bind fun a => (bs ds).bind fun r => some (a ++ r)) = some as at e
    cases e1 : b d with
    | none => rw [e1] at e; cases e
    | some a1 =>
      rw [e1] at e
      change ((bs ds).bind fun r => some (a1 ++ r)) = some as at e
      cases e2 : bs ds with
      | none => rw [e2] at e; cases e
      | some a2 =>
        rw [e2] at e
        cases e
        refine ⟨_, _, rfl, k fa F H d v σ _ a1 h r e1 fun ws hw hn => k' fa F H ds vs _ Q a2 h rr e2 fun us hu hm => ?_⟩
        rw [← setV_append]
        exact q _ (hw.append hu) (by rw [List.map_append, hn, hm])
theorem tj_tup {k : Nat} {n : Nat} (hc : X.calm = true) (h : TsJ X es ns bs) (hl : ∀ xs as, bs xs = some as → xs.length = n) (hn : (assignEach es X.env).length = n := by rfl) (hst : (assignEach es X.env).findIdx? (·.1) = none := by rfl) : TJ X (.Tuple es k pos) ns (bTup bs) := by
  obtain ⟨g, p, kk⟩ := h
  refine ⟨_, pg_tup hc p hn hst, fun fa F H x v σ Q as h r e q => ?_⟩
  cases r with
  | tup ht rl => exact ⟨_, _, rfl, same_seqT h ht, by rw [← rl.length]; exact hl _ _ e, kk fa F H _ _ σ Q as h rl e q⟩
  | _ => cases e
theorem bNil_len : ∀ xs as, bNil xs = some as → xs.length = 0
  | [], _, _ => rfl
  | _ :: _, _, h => by cases h
theorem bCons_len {n : Nat} {b : D → Option Asg} {bs : List D → Option Asg} (h : ∀ xs as, bs xs = some as → xs.length = n) : ∀ xs as, bCons b bs xs = some as → xs.length = n + 1
  | [], _, q => by cases q
  | x :: xs, as, q => by
    change ((b x).bind fun a => (bs xs).bind fun r => some (a ++ r)) = some as at q
    cases e1 : b x with
    | none => rw [e1] at q; cases q
    | some a1 =>
      rw [e1] at q
      change ((bs xs).bind fun r => some (a1 ++ r)) = some as at q
      cases e2 : bs xs with
      | none => rw [e2] at q; cases q
      | some a2 => exact congrArg (· + 1) (h xs a2 e2)
end

/-! ### what is walked -/
structure WJ (K : PySem.W.Frag) (fa : Option FA) (J : It) (F : Hp) (xs : List D) : Prop where
  ex : ∃ G Y, Walk J xs.length G Y ∧ (∀ F2 H2, Same F F2 → Same F2 H2 → G H2) ∧
    ∀ (i : Nat) x F2 H2 v H3, xs[i]? = some x → Same F F2 → Same F2 H2 → Y i H2 v H3 → ∃ F3, Same F2 F3 ∧ Same F3 H3 ∧ Same H2 H3 ∧ (∀ b, H2 b ≠ none → F3 b = F2 b) ∧ Rep K fa F3 x v
def GoodI (X : Cx) (fa : Option FA) (W : XK) (F H : Hp) (r : Res (List D)) (R : It → Hp → Prop) : Prop :=
  match r with
  | .bad => False
  | .ok xs s' => ∀ J F' H', Ext fa F H F' H' → FeedOk X.K fa F' H' s' → WJ X.K fa J F' xs → R J H'
  | .err e s' => ∀ cls dd F' H', Ext fa F H F' H' → FeedOk X.K fa F' H' s' → RepX X.K X.mg fa F' H' e cls dd → W cls dd H'
def IOk (X : Cx) (fa : Option FA) (W : L2.St → XK) (wi : TI) (f : Env' → M (List D)) : Prop :=
  ∀ (σ : L2.St) (F H : Hp) (ρ : Env') (s : FS) (R : It → Hp → Prop), Same F H → FeedOk X.K fa F H s → EnvOk X.K fa F σ ρ → GoodI X fa (W σ) F H (f ρ s) R → wi σ H R

/-- AN ITERABLE: it gives the items one by one -/
def IJ (X : Cx) (fa : Option FA) (W : L2.St → XK) (tg e : Expr) (f : Env' → M (List D)) : Prop := ∃ wi, PI X tg e wi ∧ IOk X fa W wi f
def iSeq (f : Env' → M D) : Env' → M (List D) := fun ρ => (f ρ).bind fun x => M.lift (seqD x)
def strD : D → Option (List D)
  | .str z => some (z.cps.toList.map fun c => .str ⟨#[c]⟩)
  | _ => none
def iText (f : Env' → M D) : Env' → M (List D) := fun ρ => (f ρ).bind fun x => M.lift (strD x)
/-- lo, lo + 1, .. -/
def rangeD (lo : Int) (n : Nat) : List D := (List.range n).map fun i => .int (lo + (i : Nat))
def rng1 : List D → Option (List D)
  | [.int j] => if -(2 ^ 62) ≤ j ∧ j < 2 ^ 62 then some (rangeD 0 j.toNat) else none
  | _ => none
def rng2 : List D → Option (List D)
  | [.int i, .int j] => if -(2 ^ 62) ≤ i ∧ i < 2 ^ 62 ∧ -(2 ^ 62) ≤ j ∧ j < 2 ^ 62 then some (rangeD i (j - i).toNat) else none
  | _ => none
def iFn (g : List D → Option (List D)) (f : Env' → M (List D)) : Env' → M (List D) := fun ρ => (f ρ).bind fun xs => M.lift (g xs)
def enumD : Nat → List D → List D
  | _, [] => []
  | k, x :: xs => .tup [.int (k : Nat), x] :: enumD (k + 1) xs
def enm : List D → Option (List D)
  | [.lst xs] => some (enumD 0 xs)
  | _ => none
def zipD : List D → List D → List D
  | x :: xs, y :: ys => .tup [x, y] :: zipD xs ys
  | _, _ => []
def zp : List D → Option (List D)
  | [.lst xs, .lst ys] => some (zipD xs ys)
  | [.tup xs, .tup ys] => some (zipD xs ys)
  | _ => none
theorem enumD_get : ∀ (xs : List D) (k i : Nat), (enumD k xs)[i]? = xs[i]?.map fun x => .tup [.int ((k + i : Nat) : Int), x]
  | [], k, i => by simp [enumD]
  | x :: xs, k, 0 => by simp [enumD]
  | x :: xs, k, i + 1 => by
    have := enumD_get xs (k + 1) i
    simp only [enumD, List.getElem?_cons_succ, this]
    rw [show k + 1 + i = k + (i + 1) by omega]
theorem enumD_len : ∀ (xs : List D) (k : Nat), (enumD k xs).length = xs.length
  | [], _ => rfl
  | x :: xs, k => congrArg (· + 1) (enumD_len xs (k + 1))
theorem zipD_len : ∀ (xs ys : List D), (zipD xs ys).length = min xs.length ys.length
  | [], _ => by simp [zipD]
  | _ :: _, [] => by simp [zipD]
  | x :: xs, y :: ys => by simp only [zipD, List.length_cons, zipD_len xs ys]; omega
theorem zipD_get : ∀ (xs ys : List D) (i : Nat) (z : D), (zipD xs ys)[i]? = some z → ∃ x y, xs[i]? = some x ∧ ys[i]? = some y ∧ z = .tup [x, y]
  | [], _, _, _, h => by simp [zipD] at h
  | _ :: _, [], _, _, h => by simp [zipD] at h
  | x :: xs, y :: ys, 0, z, h => by simp [zipD] at h; exact ⟨x, y, rfl, rfl, h.symm⟩
  | x :: xs, y :: ys, i + 1, z, h => by
    obtain ⟨a, b, h1, h2, h3⟩ := zipD_get xs ys i z (by simpa [zipD] using h)
    exact ⟨a, b, by simpa using h1, by simpa using h2, h3⟩
section
variable {X : Cx} {fa : Option FA} {W : XK} {Wσ : L2.St → XK} {tg a b c e o : Expr} {es rest : List Expr} {pos p apos : Pos} {F H F' H' : Hp} {fl : Env' → M (List D)} {f1 : Env' → M D}
theorem GoodI.tgt {R : It → Hp → Prop} : Tgt X fa W (fun F H (r : Res (List D)) => GoodI X fa W F H r R) := by
  refine ⟨fun _ _ h => h, fun _ _ _ _ h => h, fun F H F' H' r e h => ?_⟩
  cases r with
  | bad => exact h
  | ok d s => exact fun v F2 H2 e2 => h v F2 H2 (e.trans e2)
  | err x s => exact fun c dd F2 H2 e2 => h c dd F2 H2 (e.trans e2)
/-- nothing is made -/
theorem wj_here {J : It} {xs : List D} {G : Hp → Prop} {Y : Nat → Hp → V → Hp → Prop} (w : Walk J xs.length G Y) (hG : ∀ F2 H2, Same F F2 → Same F2 H2 → G H2)
    (hY : ∀ (i : Nat) x F2 H2 v H3, xs[i]? = some x → Same F F2 → Same F2 H2 → Y i H2 v H3 → H3 = H2 ∧ Rep X.K fa F2 x v) : WJ X.K fa J F xs :=
  ⟨⟨G, Y, w, hG, fun i x F2 H2 v H3 hx h1 h2 y => by
    obtain ⟨rfl, r⟩ := hY i x F2 H2 v H3 hx h1 h2 y
    exact ⟨F2, Same.refl _, h2, Same.refl _, fun _ _ => rfl, r⟩⟩⟩
/-- pairs are made -/
theorem wj_pair {J : It} {xs : List D} {G : Hp → Prop} {u w' : Nat → Option V} (w : Walk J xs.length G (YPair u w')) (hG : ∀ F2 H2, Same F F2 → Same F2 H2 → G H2)
    (hY : ∀ (i : Nat) x, xs[i]? = some x → ∃ d e, x = .tup [d, e] ∧ (∀ F2 v, Same F F2 → u i = some v → Rep X.K fa F2 d v) ∧ ∀ F2 v, Same F F2 → w' i = some v → Rep X.K fa F2 e v) : WJ X.K fa J F xs :=
  ⟨⟨G, _, w, hG, fun i x F2 H2 v H3 hx h1 h2 y => by
    obtain ⟨T, x1, x2, rfl, hT, rfl, q1, q2⟩ := y
    obtain ⟨d, e, rfl, r1, r2⟩ := hY i x hx
    have ex : Ext (none : Option FA) F2 H2 (upd F2 T (.tup [x1, x2])) (upd H2 T (.tup [x1, x2])) := Ext.new h2 hT
    exact ⟨_, ex.ff, ex.fh, fun b o q => ex.hh b o q (fun _ z => nomatch z), ex.fr, .tup (SqT.of upd_same) (.cons ((r1 F2 x1 h1 q1).mono ex.ff) (.cons ((r2 F2 x2 h1 q2).mono ex.ff) .nil))⟩⟩⟩
theorem wj_list {a : Addr} {xs : List D} {vs : List V} (h : F a = some (.lst vs)) (r : RepL X.K fa F xs vs) : WJ X.K fa (Itl X.K a) F xs := by
  refine wj_here (Y := YAt vs) (by rw [r.length]; exact walk_list (xs := vs)) (fun F2 H2 h1 h2 => SqL.of (h2 _ _ (h1 _ _ h))) fun i x F2 H2 v H3 hx h1 h2 y => ⟨y.1, ?_⟩
  obtain ⟨d, hd, rd⟩ := r.get y.2
  rw [hx] at hd
  cases hd
  exact rd.mono h1
theorem wj_tup {a : Addr} {xs : List D} {vs : List V} (h : SqT X.K F a vs) (r : RepL X.K fa F xs vs) : WJ X.K fa (Itt X.K a) F xs := by
  refine wj_here (Y := YAt vs) (by rw [r.length]; exact walk_tup (xs := vs)) (fun F2 H2 h1 h2 => same_seqT h2 (same_seqT h1 h)) fun i x F2 H2 v H3 hx h1 h2 y => ⟨y.1, ?_⟩
  obtain ⟨d, hd, rd⟩ := r.get y.2
  rw [hx] at hd
  cases hd
  exact rd.mono h1
theorem PI.or {wi wi' : TI} (h : PI X tg e wi) (h' : PI X tg e wi') : PI X tg e (fun σ H R => wi σ H R ∨ wi' σ H R) :=
  ⟨fun pins s σ H R I q => q.elim (h.run pins s σ H R I) (h'.run pins s σ H R I)⟩
/-- a list or a tuple -/
theorem ij_seq (h : ED X fa Wσ e f1) : IJ X fa Wσ tg e (iSeq f1) := by
  obtain ⟨t, p, k⟩ := h
  refine ⟨_, PI.or (pi_list p) (pi_tup p), fun σ F H ρ s R h1 h2 h3 hg => ?_⟩
  change GoodI X fa (Wσ σ) F H ((f1 ρ s).bnd _) R at hg
  cases q : f1 ρ s with
  | bad => rw [q] at hg; exact hg.elim
  | err e s' =>
    rw [q] at hg
    refine .inl (k σ F H ρ s _ h1 h2 h3 ?_)
    rw [q]
    exact hg
  | ok x s' =>
    rw [q] at hg
    cases x with
    | lst xs =>
      refine .inl (k σ F H ρ s _ h1 h2 h3 ?_)
      rw [q]
      intro v F' H' e fo r
      cases r with
      | lst hq rl => exact ⟨_, rfl, ⟨_, SqL.of (e.fh _ _ hq)⟩, hg _ F' H' e fo (wj_list hq rl)⟩
    | tup xs =>
      refine .inr (k σ F H ρ s _ h1 h2 h3 ?_)
      rw [q]
      intro v F' H' e fo r
      cases r with
      | tup hq rl => exact ⟨_, rfl, ⟨_, same_seqT e.fh hq⟩, hg _ F' H' e fo (wj_tup hq rl)⟩
    | _ => exact hg.elim
theorem ij_text (h : ED X fa Wσ e f1) : IJ X fa Wσ tg e (iText f1) := by
  obtain ⟨t, p, k⟩ := h
  refine ⟨_, pi_str p, fun σ F H ρ s R h1 h2 h3 hg => ?_⟩
  refine k.then GoodI.tgt h1 h2 h3 hg fun x s1 v F1 H1 e1 o1 r1 v1 h' => ?_
  change GoodI X fa (Wσ σ) F1 H1 (M.lift (strD x) s1) R at h'
  cases r1 with
  | str z =>
    refine ⟨z, rfl, h' _ F1 H1 (Ext.refl e1.fh) o1 (wj_here (xs := z.cps.toList.map fun c => .str ⟨#[c]⟩) (Y := fun i H v H' => H' = H ∧ ∃ c, z.cps[i]? = some c ∧ v = .str ⟨#[c]⟩) (by rw [List.length_map]; exact walk_str (z := z)) (fun _ _ _ _ => trivial) fun i x F2 H2 v H3 hx h1 h2 y => ⟨y.1, ?_⟩)⟩
    obtain ⟨c, hc, rfl⟩ := y.2
    rw [List.getElem?_map, Array.getElem?_toList, hc] at hx
    cases hx
    exact .str _
  | _ => exact h'.elim
theorem rangeD_get {lo : Int} {n i : Nat} {x : D} (h : (rangeD lo n)[i]? = some x) : x = .int (lo + (i : Nat)) := by
  unfold rangeD at h
  rw [List.getElem?_map] at h
  cases q : (List.range n)[i]? with
  | none => rw [q] at h; cases h
  | some j =>
    rw [q] at h
    obtain ⟨hl, e⟩ := List.getElem?_eq_some_iff.mp q
    rw [List.getElem_range] at e
    subst e
    exact (Option.some.inj h).symm
theorem wj_range {lo : Int} {n : Nat} : WJ X.K fa (Itr lo n) F (rangeD lo n) := by
  refine wj_here (Y := YFn fun i => .int (lo + (i : Nat))) (by rw [show (rangeD lo n).length = n by simp [rangeD]]; exact walk_range) (fun _ _ _ _ => trivial) fun i x F2 H2 v H3 hx h1 h2 y => ⟨y.1, ?_⟩
  rw [rangeD_get hx, y.2]
  exact .int _
theorem ij_range1 (hm : X.mg "range" = none) (ha : LD X fa Wσ [a] fl) (hg : Gl X "range" := by rfl) (hs : starEach [a] X.env = [(false, eval a X.env)] := by rfl) : IJ X fa Wσ tg (.Call (.Name "range" p) [a] [] pos) (iFn rng1 fl) := by
  obtain ⟨t, q, k⟩ := ha
  refine ⟨_, pi_range1 hg hm q hs, fun σ F H ρ s R h1 h2 h3 hg => ?_⟩
  refine k.then GoodI.tgt h1 h2 h3 hg fun x s1 v F1 H1 e1 o1 r1 v1 h' => ?_
  change GoodI X fa (Wσ σ) F1 H1 (M.lift (rng1 x) s1) R at h'
  cases r1 with
  | nil => exact h'.elim
  | cons r rr =>
    cases rr with
    | cons _ _ => cases r <;> exact h'.elim
    | nil =>
      cases r with
      | int j =>
        by_cases hj : -(2 ^ 62) ≤ j ∧ j < 2 ^ 62
        · rw [show rng1 [.int j] = some (rangeD 0 j.toNat) from if_pos hj] at h'
          exact ⟨j, rfl, hj.1, hj.2, h' _ F1 H1 (Ext.refl e1.fh) o1 wj_range⟩
        · rw [show rng1 [.int j] = none from if_neg hj] at h'
          exact h'.elim
      | _ => exact h'.elim
theorem ij_range2 (hm : X.mg "range" = none) (ha : LD X fa Wσ [a, b] fl) (hg : Gl X "range" := by rfl) (hs : starEach [a, b] X.env = [(false, eval a X.env), (false, eval b X.env)] := by rfl) (hs2 : starEach [b] X.env = [(false, eval b X.env)] := by rfl) : IJ X fa Wσ tg (.Call (.Name "range" p) [a, b] [] pos) (iFn rng2 fl) := by
  obtain ⟨t, q, k⟩ := ha
  refine ⟨_, pi_range2 hg hm q hs hs2, fun σ F H ρ s R h1 h2 h3 hg => ?_⟩
  refine k.then GoodI.tgt h1 h2 h3 hg fun x s1 v F1 H1 e1 o1 r1 v1 h' => ?_
  change GoodI X fa (Wσ σ) F1 H1 (M.lift (rng2 x) s1) R at h'
  cases r1 with
  | nil => exact h'.elim
  | cons r rr =>
    cases rr with
    | nil => cases r <;> exact h'.elim
    | cons r' rr =>
      cases rr with
      | cons _ _ => cases r <;> cases r' <;> exact h'.elim
      | nil =>
        cases r with
        | int i =>
          cases r' with
          | int j =>
            by_cases hj : -(2 ^ 62) ≤ i ∧ i < 2 ^ 62 ∧ -(2 ^ 62) ≤ j ∧ j < 2 ^ 62
            · rw [show rng2 [.int i, .int j] = some (rangeD i (j - i).toNat) from if_pos hj] at h'
              exact ⟨i, j, rfl, hj, h' _ F1 H1 (Ext.refl e1.fh) o1 wj_range⟩
            · rw [show rng2 [.int i, .int j] = none from if_neg hj] at h'
              exact h'.elim
          | _ => exact h'.elim
        | _ => exact h'.elim
theorem ij_enum {elts : List Expr} {kk : Nat} {tpos : Pos} (hm : X.mg "enumerate" = none) (ha : LD X fa Wσ [e] fl) (hg : Gl X "enumerate" := by rfl) (hs : starEach [e] X.env = [(false, eval e X.env)] := by rfl) : IJ X fa Wσ (.Tuple elts kk tpos) (.Call (.Name "enumerate" p) [e] [] pos) (iFn enm fl) := by
  obtain ⟨t, q, k⟩ := ha
  refine ⟨_, pi_enum hg hm q hs, fun σ F H ρ s R h1 h2 h3 hg => ?_⟩
  refine k.then GoodI.tgt h1 h2 h3 hg fun x s1 v F1 H1 e1 o1 r1 v1 h' => ?_
  change GoodI X fa (Wσ σ) F1 H1 (M.lift (enm x) s1) R at h'
  cases r1 with
  | nil => exact h'.elim
  | cons r rr =>
    cases rr with
    | cons _ _ => cases r <;> exact h'.elim
    | nil =>
      cases r with
      | @lst a xs vs hq rl =>
        refine ⟨a, vs, rfl, SqL.of (e1.fh _ _ hq), h' _ F1 H1 (Ext.refl e1.fh) o1 (wj_pair (xs := enumD 0 xs) (by rw [enumD_len, rl.length]; exact walk_enum (xs := vs)) (fun F2 H2 h1 h2 => SqL.of (h2 _ _ (h1 _ _ hq))) fun i x hx => ?_)⟩
        rw [enumD_get] at hx
        cases qx : xs[i]? with
        | none => rw [qx] at hx; cases hx
        | some y =>
          rw [qx] at hx
          cases hx
          refine ⟨_, _, rfl, fun F2 v h1 hv => ?_, fun F2 v h1 hv => ?_⟩
          · cases hv
            rw [Nat.zero_add]
            exact .int _
          · obtain ⟨d, hd, rd⟩ := rl.get hv
            rw [qx] at hd
            cases hd
            exact rd.mono h1
      | _ => exact h'.elim
theorem wj_zip {J : It} {xs ys : List D} {us ws : List V} {G : Hp → Prop} (w : ∀ n, n = min us.length ws.length → Walk J n G (YPair (fun i => us[i]?) (fun i => ws[i]?))) (hG : ∀ F2 H2, Same F F2 → Same F2 H2 → G H2) (r1 : RepL X.K fa F xs us) (r2 : RepL X.K fa F ys ws) : WJ X.K fa J F (zipD xs ys) := by
  refine wj_pair (w _ (by rw [zipD_len, r1.length, r2.length])) hG fun i x hx => ?_
  obtain ⟨d, e, h1, h2, rfl⟩ := zipD_get xs ys i x hx
  refine ⟨d, e, rfl, fun F2 v h hv => ?_, fun F2 v h hv => ?_⟩
  · obtain ⟨d', hd, rd⟩ := r1.get hv
    rw [h1] at hd
    cases hd
    exact rd.mono h
  · obtain ⟨d', hd, rd⟩ := r2.get hv
    rw [h2] at hd
    cases hd
    exact rd.mono h
theorem walk_zipT {K : PySem.W.Frag} {a b : Addr} {xs ys : List V} {n : Nat} (hn : n = min xs.length ys.length) : Walk (RZ.ItzT K a b) n (fun H => SqT K H a xs ∧ SqT K H b ys) (YPair (fun i => xs[i]?) (fun i => ys[i]?)) := by
  subst hn
  refine ⟨fun i _ hi q => ?_, fun _ q => ⟨xs, ys, q.1, q.2, by omega⟩, fun i H v H' _ q y => ?_⟩
  · have h1 : i < xs.length := by omega
    have h2 : i < ys.length := by omega
    exact ⟨xs, ys, xs[i], ys[i], q.1, q.2, by simp [h1], by simp [h2]⟩
  · obtain ⟨T, x, z, h1, h2, h3, h4, h5⟩ := y
    exact ⟨T, x, z, h1, h2, h3, h4 xs q.1, h5 ys q.2⟩
theorem ij_zip {elts : List Expr} {kk : Nat} {tpos : Pos} (hm : X.mg "zip" = none) (ha : LD X fa Wσ [a, b] fl) (hg : Gl X "zip" := by rfl) (hs : starEach [a, b] X.env = (false, eval a X.env) :: starEach [b] X.env := by rfl) (hs2 : (backTo pos (starEach [b] X.env)).any (·.1) = false := by rfl) : IJ X fa Wσ (.Tuple elts kk tpos) (.Call (.Name "zip" p) [a, b] [] pos) (iFn zp fl) := by
  obtain ⟨t, q, k⟩ := ha
  refine ⟨_, RZ.pi_zipA hg hm q hs hs2, fun σ F H ρ s R h1 h2 h3 hg => ?_⟩
  refine k.then GoodI.tgt h1 h2 h3 hg fun x s1 v F1 H1 e1 o1 r1 v1 h' => ?_
  change GoodI X fa (Wσ σ) F1 H1 (M.lift (zp x) s1) R at h'
  cases r1 with
  | nil => exact h'.elim
  | cons r rr =>
    cases rr with
    | nil => cases r <;> exact h'.elim
    | cons r' rr =>
      cases rr with
      | cons _ _ => cases r <;> cases r' <;> exact h'.elim
      | nil =>
        cases r with
        | lst hq rl =>
          cases r' with
          | lst hq' rl' => exact ⟨_, _, _, _, rfl, .inl ⟨SqL.of (e1.fh _ _ hq), SqL.of (e1.fh _ _ hq'), h' _ F1 H1 (Ext.refl e1.fh) o1 (wj_zip (fun n hn => walk_zip hn) (fun F2 H2 h1 h2 => ⟨SqL.of (h2 _ _ (h1 _ _ hq)), SqL.of (h2 _ _ (h1 _ _ hq'))⟩) rl rl')⟩⟩
          | _ => exact h'.elim
        | tup hq rl =>
          cases r' with
          | tup hq' rl' => exact ⟨_, _, _, _, rfl, .inr ⟨same_seqT e1.fh hq, same_seqT e1.fh hq', h' _ F1 H1 (Ext.refl e1.fh) o1 (wj_zip (fun n hn => walk_zipT hn) (fun F2 H2 h1 h2 => ⟨same_seqT h2 (same_seqT h1 hq), same_seqT h2 (same_seqT h1 hq')⟩) rl rl')⟩⟩
          | _ => exact h'.elim
        | _ => cases r' <;> exact h'.elim
end
end DL

set_option Elab.async false
set_option linter.all false
set_option maxRecDepth 100000
set_option maxHeartbeats 2000000
/-! The data layer: for, comprehensions. -/
namespace DL
open PySem PySem.Spec PyProof.Rows L2

/-! ### for -/
def forS (b : D → Option Asg) (g : Sts → M (Fl × Sts)) : List D → Sts → M (Fl × Sts)
  | [], ρ => M.pure (.nx, ρ)
  | x :: xs, ρ => (M.lift (b x)).bind fun as => (g (setS as ρ)).bind fun p => match p.1 with
    | .nx => forS b g xs p.2
    | .ct => forS b g xs p.2
    | .bk => M.pure (.nx, p.2)
    | .rt d => M.pure (.rt d, p.2)
def gFor (it : Env' → M (List D)) (b : D → Option Asg) (g : Sts → M (Fl × Sts)) : Sts → M (Fl × Sts) := fun ρ => (it (mask ρ)).bind fun xs => forS b g xs ρ
section
variable {X : Cx} {fa : Option FA} {W : XK} {tg iter : Expr} {body : List Stmt} {pos : Pos} {it : Env' → M (List D)} {b : D → Option Asg} {g : Sts → M (Fl × Sts)} {ns : List Nat}
theorem ext_same {fa : Option FA} {F H F' H' : Hp} (a : Same F F') (b : Same F' H') (c : Same H H') (d : ∀ b, H b ≠ none → F' b = F b) : Ext fa F H F' H' := ⟨a, b, fun x o e _ => c x o e, d, fun x e => by
  cases q : H x with
  | none => exact absurd q e
  | some o => rw [c x o q]; simp⟩
/-- the loop, once its iterator stands -/
theorem for_go {B F0 H0 F H : Hp} {A : Nat → Addr} {σ : L2.St} {ρ : Sts} {s : FS} {Dn : Ends} {J : It} {xs : List D} {gt : TG} {tb : TS} (S : SOk X.K fa B F0 H0 F H A σ ρ s) (hw : WJ X.K fa J F xs) (hg : GOk X ns gt b) (hb : SOkT X fa W tb g)
    (h : GoodS X fa W B F0 H0 (forS b g xs ρ s) Dn) :
    ∃ W : Nat → Nat → L2.St → Hp → Prop, (∃ m, W 0 m σ H) ∧ ∀ i m σ H, W i m σ H →
      (J.stop i H ∧ Dn.nx σ H) ∨ (J.go i H ∧ ∃ N : L2.St → Hp → Prop, (∀ σ' H', N σ' H' → ∃ m', m' < m ∧ W (i + 1) m' σ' H') ∧ ∀ x H', J.yld i H x H' → gt x σ H' fun σ2 H2 => tb { Dn with nx := N, ct := N, bk := Dn.nx } σ2 H2) := by
  obtain ⟨G, Y, wk, hG, hY⟩ := hw.ex
  have hbase : GoodS X fa W F F0 H0 (forS b g xs ρ s) Dn := GoodS.base S.flr h
  refine for_it wk (fun i σ' H' => ∃ F' A' ρ' s', SOk X.K fa F F0 H0 F' H' A' σ' ρ' s' ∧ GoodS X fa W F F0 H0 (forS b g (xs.drop i) ρ' s') Dn) ⟨F, A, ρ, s, S.floor, hbase⟩ ?_ ?_ ?_
  · rintro i σ' H' _ ⟨F', A', ρ', s', S', _⟩
    exact hG F' H' S'.flr S'.ext.fh
  · rintro i x σ' H' H3 hi ⟨F', A', ρ', s', S', q⟩ y
    have hx : xs[i]? = some xs[i] := List.getElem?_eq_getElem hi
    obtain ⟨F3, a1, a2, a3, a4, r⟩ := hY i _ F' H' x H3 hx S'.flr S'.ext.fh y
    have S3 := S'.step (ext_same a1 a2 a3 a4) (S'.fd.ext_same a1 a3 a4)
    rw [List.drop_eq_getElem_cons hi] at q
    change GoodS X fa W F F0 H0 (((M.lift (b xs[i])).bind _) s') Dn at q
    cases e : b xs[i] with
    | none => rw [e] at q; exact q.elim
    | some as =>
      rw [e] at q
      refine hg fa F3 H3 _ _ σ' _ as S3.ext.fh r e fun ws hws _ => ?_
      obtain ⟨A4, S4⟩ := S3.setS hws
      refine hb F F0 H0 F3 H3 A4 _ _ s' _ S4 ?_
      change GoodS X fa W F F0 H0 ((g (setS as ρ') s').bnd _) Dn at q
      generalize g (setS as ρ') s' = rr at q
      cases rr with
      | bad => exact q
      | err e s'' => exact q
      | ok p s'' =>
        obtain ⟨fl, ρ5⟩ := p
        cases fl with
        | nx => exact fun σ5 F5 H5 A5 S5 => ⟨F5, A5, ρ5, s'', S5, q⟩
        | ct => exact fun σ5 F5 H5 A5 S5 => ⟨F5, A5, ρ5, s'', S5, q⟩
        | bk => exact q
        | rt d => exact q
  · rintro σ' H' ⟨F', A', ρ', s', S', q⟩
    rw [List.drop_length] at q
    exact q σ' F' H' A' S'
theorem sj_for (hp : PassesOwn (model X.prog X.w) X.A X.env X.xe) (hc : X.calm = true) (hi : IJ X fa (fun _ => W) tg iter it) (hg : TJ X tg ns b) (hb : SSJ X fa W body g) (hs : ∀ x, foldedSetIterable iter X.env x = pure x := by intro _; rfl) :
    SJ X fa W (.For tg iter body [] pos) (gFor it b g) := by
  obtain ⟨wi, pi, ki⟩ := hi
  obtain ⟨gt, pg, kg⟩ := hg
  obtain ⟨tb, pb, kb⟩ := hb
  refine ⟨_, ps_for hp hc pi pg pb hs, fun B F0 H0 F H A σ ρ s Dn S hgood => ?_⟩
  have S0 : SOk X.K fa B F0 H0 F H A (σ ++ []) (ρ ++ []) s := by rw [app0, app0]; exact S
  refine ki σ F H (mask ρ) s _ S.ext.fh S.fd (S0.mask S.len) ?_
  change GoodS X fa W B F0 H0 ((it (mask ρ) s).bnd _) Dn at hgood
  generalize it (mask ρ) s = r at hgood
  cases r with
  | bad => exact hgood
  | err e s' => exact fun cls dd F' H' e fo rx => hgood cls dd F' H' (S.ext.trans e) fo rx
  | ok xs s' => exact fun J F' H' e fo w => for_go (S.step e fo) w kg kb hgood
end

/-! ### uniform readings -/
/-- the widest reading of an expression that computes f -/
def tStar (X : Cx) (fa : Option FA) (W : L2.St → XK) (f : Env' → M D) : TE := fun σ H Q => ∃ F ρ s, Same F H ∧ FeedOk X.K fa F H s ∧ EnvOk X.K fa F σ ρ ∧ Good X fa (W σ) F H (f ρ s) Q
def tStarB (X : Cx) (fa : Option FA) (W : L2.St → XK) (f : Env' → M Bool) : TT := fun σ H Q => ∃ F ρ s, Same F H ∧ FeedOk X.K fa F H s ∧ EnvOk X.K fa F σ ρ ∧ GoodB X fa (W σ) F H (f ρ s) Q
def gStar (X : Cx) (ns : List Nat) (b : D → Option Asg) : TG := fun v σ H Q => ∃ (fa : Option FA) (F : Hp) (x : D) (as : Asg), Same F H ∧ Rep X.K fa F x v ∧ b x = some as ∧ ∀ ws, RepA X.K fa F as ws → as.map (·.1) = ns → Q (setV ws σ) H
section
variable {X Z : Cx} {fa : Option FA} {W : L2.St → XK} {e : Expr} {f : Env' → M D} {c : Env' → M Bool} {ns : List Nat} {b : D → Option Asg}
theorem ED.star (h : ED X fa W e f) : PE X e (tStar X fa W f) := by
  obtain ⟨t, p, k⟩ := h
  exact ⟨fun pins s σ H Q I ⟨F, ρ, s', h1, h2, h3, h4⟩ => p.run pins s σ H Q I (k σ F H ρ s' Q h1 h2 h3 h4)⟩
theorem TD.star (h : TD X fa W e c) : PT X e (tStarB X fa W c) := by
  obtain ⟨t, p, k⟩ := h
  exact ⟨fun pins s σ H Q I ⟨F, ρ, s', h1, h2, h3, h4⟩ => p.run pins s σ H Q I (k σ F H ρ s' Q h1 h2 h3 h4)⟩
theorem TJ.star (h : TJ X e ns b) : PG X e (gStar X ns b) := by
  obtain ⟨g, p, k⟩ := h
  exact ⟨fun pins s σ H v u Q I r ⟨fa, F, x, as, h1, h2, h3, h4⟩ => p.run pins s σ H v u Q I r (k fa F H x v σ Q as h1 h2 h3 h4)⟩
end

/-! ### comprehensions -/
def M.quiet {α : Type} (m : M α) : M α := fun s => match m s with
  | .err _ _ => .bad
  | r => r
def cYes : Env' → M Bool := fun _ => M.pure true
def lcE (b : D → Option Asg) (c : Env' → M Bool) (f : Env' → M D) : List D → Env' → M (List D)
  | [], _ => M.pure []
  | x :: xs, ρ => (M.lift (b x)).bind fun as => (c (setE as ρ)).bind fun k => if k = true then (f (setE as ρ)).bind fun y => (lcE b c f xs ρ).bind fun ys => M.pure (y :: ys) else lcE b c f xs ρ
def dLc (it : Env' → M (List D)) (b : D → Option Asg) (c : Env' → M Bool) (f : Env' → M D) : Env' → M (List D) := fun ρ => (it ρ).bind fun xs => if xs.length ≤ sizeLine then M.quiet (lcE b c f xs ρ) else M.bad
theorem bnd_ok {α β : Type} {r : Res α} {g : α → FS → Res β} {y : β} {s : FS} (h : r.bnd g = .ok y s) : ∃ x s1, r = .ok x s1 ∧ g x s1 = .ok y s := by
  cases r with
  | bad => cases h
  | err e s => cases h
  | ok x s1 => exact ⟨x, s1, rfl, h⟩
theorem lift_ok {α : Type} {o : Option α} {s s' : FS} {a : α} (h : M.lift o s = .ok a s') : o = some a ∧ s' = s := by
  cases o with
  | none => cases h
  | some b => cases h; exact ⟨rfl, rfl⟩
def PTsD (X : Cx) (fa : Option FA) (W : L2.St → XK) (ifs : List Expr) (c : Env' → M Bool) : Prop := PTs X ifs (tStarB X fa W c)
def Wno : L2.St → XK := fun _ _ _ _ => False
section
variable {X : Cx} {fa : Option FA} {W : XK} {Wσ : L2.St → XK}
theorem PTsD.star {ifs : List Expr} {c : Env' → M Bool} (h : PTsD X fa Wσ ifs c) : PTs X ifs (tStarB X fa Wσ c) := h
theorem ptd_nil : PTsD X fa Wσ [] cYes := ⟨fun pins s σ H Q I ⟨F, ρ, s', h1, h2, h3, h4⟩ => pts_nil.run pins s σ H Q I (h4 F H (Ext.refl h1) h2)⟩
theorem ptd_one {e : Expr} {c : Env' → M Bool} (h : TD X fa Wσ e c) : PTsD X fa Wσ [e] c := pts_one h.star

def wipeE (ρ : Env') : List Nat → Env'
  | [] => ρ
  | v :: vs => (wipeE ρ vs).set v none
theorem EnvOk.wipe {K : PySem.W.Frag} {F : Hp} {σ : L2.St} {ρ : Env'} (h : EnvOk K fa F σ ρ) : ∀ vs : List Nat, EnvOk K fa F (L2.wipe σ vs) (wipeE ρ vs)
  | [] => h
  | v :: vs => by
    have ih := EnvOk.wipe h vs
    refine ⟨by unfold L2.wipe wipeE; simpa using ih.len, fun i d e => ?_⟩
    unfold wipeE at e
    unfold L2.wipe
    by_cases hi : v = i
    · subst hi
      by_cases hl : v < (wipeE ρ vs).length
      · rw [List.getElem?_set_self hl] at e; cases e
      · rw [List.getElem?_eq_none (by simpa using hl)] at e; cases e
    · rw [List.getElem?_set_ne hi] at e
      rw [List.getElem?_set_ne hi]
      exact ih.at_ i d e
theorem setE_absorb : ∀ (as : Asg) (ρ : Env') (v : Nat) (o : Option D), v ∈ as.map (·.1) → setE as (ρ.set v o) = setE as ρ
  | [], _, _, _, h => by simp at h
  | (i, d) :: r, ρ, v, o, h => by
    unfold setE
    by_cases hi : i = v
    · subst hi
      rw [List.set_set]
    · have hr : v ∈ r.map (·.1) := by
        rcases List.mem_cons.mp h with e | e
        · exact absurd e.symm hi
        · exact e
      rw [List.set_comm _ _ (Ne.symm hi)]
      exact setE_absorb r _ v o hr
theorem setE_wipe (as : Asg) (ρ : Env') : ∀ vs : List Nat, (∀ v ∈ vs, v ∈ as.map (·.1)) → setE as (wipeE ρ vs) = setE as ρ
  | [], _ => rfl
  | v :: vs, h => by
    unfold wipeE
    rw [setE_absorb as _ v none (h v List.mem_cons_self)]
    exact setE_wipe as ρ vs fun u hu => h u (List.mem_cons_of_mem _ hu)
theorem wipe_set (σ : L2.St) (i : Nat) (o : Option V) : ∀ vs : List Nat, i ∈ vs → L2.wipe (σ.set i o) vs = L2.wipe σ vs
  | [], h => by simp at h
  | v :: vs, h => by
    unfold L2.wipe
    by_cases hv : i ∈ vs
    · rw [wipe_set σ i o vs hv]
    · have : i = v := by
        rcases List.mem_cons.mp h with e | e
        · exact e
        · exact absurd e hv
      subst this
      refine List.ext_getElem? fun j => ?_
      by_cases hj : i = j
      · subst hj
        by_cases hl : i < σ.length
        · rw [List.getElem?_set_self (by rw [wipe_length]; simpa using hl), List.getElem?_set_self (by rw [wipe_length]; exact hl)]
        · rw [List.getElem?_eq_none (by simp [wipe_length]; omega), List.getElem?_eq_none (by simp [wipe_length]; omega)]
      · rw [List.getElem?_set_ne hj, List.getElem?_set_ne hj]
        by_cases hjv : j ∈ vs
        · clear hv h
          induction vs with
          | nil => simp at hjv
          | cons u us ih =>
            unfold L2.wipe
            by_cases hu : u = j
            · subst hu
              by_cases hl : u < σ.length
              · rw [List.getElem?_set_self (by rw [wipe_length]; simpa using hl), List.getElem?_set_self (by rw [wipe_length]; exact hl)]
              · rw [List.getElem?_eq_none (by simp [wipe_length]; omega), List.getElem?_eq_none (by simp [wipe_length]; omega)]
            · rw [List.getElem?_set_ne hu, List.getElem?_set_ne hu]
              by_cases hm : j ∈ us
              · exact ih hm
              · rw [wipe_out hm, wipe_out hm, List.getElem?_set_ne hj]
        · rw [wipe_out hjv, wipe_out hjv, List.getElem?_set_ne hj]
theorem wipe_setV (vs : List Nat) : ∀ (ws : List (Nat × V)) (σ : L2.St), (∀ p ∈ ws, p.1 ∈ vs) → L2.wipe (setV ws σ) vs = L2.wipe σ vs
  | [], _, _ => rfl
  | (i, v) :: r, σ, h => by
    unfold setV
    rw [wipe_setV vs r _ fun p hp => h p (List.mem_cons_of_mem _ hp), wipe_set σ i _ vs (h (i, v) List.mem_cons_self)]
theorem wipe_wipe (σ : L2.St) (vs : List Nat) : ∀ us : List Nat, (∀ u ∈ us, u ∈ vs) → L2.wipe (L2.wipe σ us) vs = L2.wipe σ vs
  | [], _ => rfl
  | u :: us, h => by
    show L2.wipe ((L2.wipe σ us).set u none) vs = _
    rw [wipe_set _ u none vs (h u List.mem_cons_self)]
    exact wipe_wipe σ vs us fun x hx => h x (List.mem_cons_of_mem _ hx)
theorem RepA.ix {K : PySem.W.Frag} {F : Hp} {as : Asg} {ws : List (Nat × V)} (r : RepA K fa F as ws) : ws.map (·.1) = as.map (·.1) := by
  induction r with
  | nil => rfl
  | cons _ _ ih => simp [ih]
/-- the state of a comprehension's loop: its list at D holds acc -/
structure CSt (X : Cx) (fa : Option FA) (F1 H1 : Hp) (D' : Addr) (F H : Hp) (acc : List D) (s : FS) : Prop where
  ext : Ext fa F1 H1 F H
  fd : FeedOk X.K fa F H s
  fD : F D' = none
  nD : H1 D' = none
  nf : Nfa fa D'
  at_ : ∃ av, H D' = some (.lst av) ∧ RepL X.K fa F acc av
theorem CSt.step {F1 H1 F H F' H' : Hp} {D' : Addr} {acc : List D} {s s' : FS} (c : CSt X fa F1 H1 D' F H acc s) (e : Ext fa F H F' H') (fo : FeedOk X.K fa F' H' s') : CSt X fa F1 H1 D' F' H' acc s' := by
  obtain ⟨av, h, r⟩ := c.at_
  exact ⟨c.ext.trans e, fo, (e.fr D' (by rw [h]; simp)).trans c.fD, c.nD, c.nf, av, e.hh _ _ h c.nf, r.mono e.ff⟩
/-- one more item -/
theorem CSt.add {F1 H1 F H : Hp} {D' : Addr} {acc : List D} {s : FS} {y : D} {v : V} {av : List V} (c : CSt X fa F1 H1 D' F H acc s) (hD : H D' = some (.lst av)) (r : Rep X.K fa F y v) : CSt X fa F1 H1 D' F (upd H D' (.lst (av ++ [v]))) (acc ++ [y]) s := by
  obtain ⟨av', h, rl⟩ := c.at_
  rw [hD] at h
  cases h
  refine ⟨⟨c.ext.ff, fun b u z => ?_, fun b u z n => ?_, c.ext.fr, fun b z => ?_⟩, fun φ q => ?_, c.fD, c.nD, c.nf, _, upd_same, rl.append (.cons r .nil)⟩
  · rw [upd_ne (ne_of_none z c.fD)]; exact c.ext.fh b u z
  · rw [upd_ne (ne_of_none z c.nD)]; exact c.ext.hh b u z n
  · have : b ≠ D' := fun q => z (q ▸ c.nD)
    rw [upd_ne this]; exact c.ext.al b z
  · obtain ⟨g1, g2, g3, g4⟩ := c.fd φ q
    exact ⟨g1, g2, by rw [upd_ne (c.nf φ q)]; exact g3, g4⟩
theorem quiet_ok {α : Type} {m : M α} {s : FS} {P : Res α → Prop} (hb : ¬ P .bad) (h : P (M.quiet m s)) : ∃ a s', m s = .ok a s' ∧ P (.ok a s') := by
  unfold M.quiet at h
  cases e : m s with
  | bad => rw [e] at h; exact absurd h hb
  | err x s' => rw [e] at h; exact absurd h hb
  | ok a s' => rw [e] at h; exact ⟨a, s', rfl, h⟩
/-- the first clause's store and tests, of item x -/
theorem lc_turn {F1 H1 F H : Hp} {D' : Addr} {acc : List D} {s s1 : FS} {σ : L2.St} {ρ : Env'} {x : D} {v : V} {as : Asg} {k : Bool} {b : D → Option Asg} {c : Env' → M Bool} {vs ns : List Nat} {R : L2.St → Bool → Hp → Prop} (C : CSt X fa F1 H1 D' F H acc s) (en : EnvOk X.K fa F σ ρ)
    (r : Rep X.K fa F x v) (hb : b x = some as) (hc : c (setE as ρ) s = .ok k s1) (hin : ∀ n ∈ ns, n ∈ vs) (hni : ∀ n ∈ vs, n ∈ ns)
    (q : ∀ σ2 F2 H2, CSt X fa F1 H1 D' F2 H2 acc s1 → Same F F2 → EnvOk X.K fa F2 σ2 (setE as ρ) → EnvOk X.K fa F2 σ ρ → L2.wipe σ2 vs = L2.wipe σ vs → R σ2 k H2) :
    gStar X ns b v (L2.wipe σ vs) H fun σ2 H2 => L2.wipe σ2 vs = L2.wipe σ vs ∧ tStarB X fa Wno c σ2 H2 (R σ2) := by
  refine ⟨fa, F, x, as, C.ext.fh, r, hb, fun ws hw hn => ?_⟩
  have hwv : L2.wipe (setV ws (L2.wipe σ vs)) vs = L2.wipe σ vs := by
    rw [wipe_setV vs ws _ fun p hp => hin _ (by rw [← hn, ← hw.ix]; exact List.mem_map_of_mem hp), wipe_wipe σ vs vs fun _ h => h]
  have en2 : EnvOk X.K fa F (setV ws (L2.wipe σ vs)) (setE as ρ) := by
    have z := (en.wipe vs).setE hw
    rw [setE_wipe as ρ vs fun n h => by rw [hn]; exact hni n h] at z
    exact z
  refine ⟨hwv, F, setE as ρ, s, C.ext.fh, C.fd, en2, ?_⟩
  rw [hc]
  exact fun F' H' e fo => q _ F' H' (C.step e fo) e.ff (en2.mono e.ff) (en.mono e.ff) hwv
theorem nok_lc {tg iter elt : Expr} {it : Env' → M (List D)} {b : D → Option Asg} {c : Env' → M Bool} {f : Env' → M D} {wi : TI} {vs ns : List Nat} (ki : IOk X fa Wσ wi it) (hin : ∀ n ∈ ns, n ∈ vs) (hni : ∀ n ∈ vs, n ∈ ns) :
    NOk X fa Wσ (tLc wi (gStar X ns b) (tStarB X fa Wno c) (tStar X fa Wno f) vs) (dLc it b c f) := by
  intro σ F H ρ s Q h1 h2 h3 hg
  refine ki σ F H ρ s _ h1 h2 h3 ?_
  change GoodN X fa (Wσ σ) F H ((it ρ s).bnd _) Q at hg
  generalize it ρ s = r at hg
  cases r with
  | bad => exact hg
  | err e s' => exact hg
  | ok xs s0 =>
    intro J F1 H1 e1 o1 wj D' hD
    change GoodN X fa (Wσ σ) F H ((if xs.length ≤ sizeLine then M.quiet (lcE b c f xs ρ) else M.bad) s0) Q at hg
    by_cases hl : xs.length ≤ sizeLine
    · rw [if_pos hl] at hg
      obtain ⟨ys, s9, hys, hg⟩ := quiet_ok (P := fun r => GoodN X fa (Wσ σ) F H r Q) (fun z => z) hg
      obtain ⟨G, Y, wk, hG, hY⟩ := wj.ex
      have nf : Nfa fa D' := fun φ q z => by
        obtain ⟨g1, g2, g3, g4⟩ := o1 φ q
        rw [z, hD] at g3
        cases g3
      have fD : F1 D' = none := Same.free e1.fh hD
      have C0 : CSt X fa F1 H1 D' F1 (upd H1 D' (.lst [])) [] s0 := by
        refine ⟨⟨Same.refl _, fun b u z => ?_, fun b u z _ => ?_, fun _ _ => rfl, fun b z => ?_⟩, fun φ q => ?_, fD, hD, nf, [], upd_same, .nil⟩
        · rw [upd_ne (ne_of_none z fD)]; exact e1.fh b u z
        · rw [upd_ne (ne_of_none z hD)]; exact z
        · have : b ≠ D' := fun q => z (q ▸ hD)
          rw [upd_ne this]; exact z
        · obtain ⟨g1, g2, g3, g4⟩ := o1 φ q
          exact ⟨g1, g2, by rw [upd_ne (nf φ q)]; exact g3, g4⟩
      refine lc_it wk (fun i H' => ∃ F' acc s' zs, CSt X fa F1 H1 D' F' H' acc s' ∧ lcE b c f (xs.drop i) ρ s' = .ok zs s9 ∧ acc ++ zs = ys ∧ acc.length ≤ i) ⟨F1, [], s0, ys, C0, hys, rfl, Nat.zero_le _⟩ ?_ ?_ ?_
      · rintro i H' _ ⟨F', acc, s', zs, C, _⟩
        exact hG F' H' C.ext.ff C.ext.fh
      · rintro i x H' H3 hi ⟨F', acc, s', zs, C, hz, ha, hlen⟩ y
        have hx : xs[i]? = some xs[i] := List.getElem?_eq_getElem hi
        obtain ⟨F3, a1, a2, a3, a4, r⟩ := hY i _ F' H' x H3 hx C.ext.ff C.ext.fh y
        have C3 := C.step (ext_same a1 a2 a3 a4) (C.fd.ext_same a1 a3 a4)
        rw [List.drop_eq_getElem_cons hi] at hz
        change ((M.lift (b xs[i]) s').bnd _) = _ at hz
        obtain ⟨as, s1, hb0, hz1⟩ := bnd_ok hz
        obtain ⟨hb, es1⟩ := lift_ok hb0
        rw [es1] at hz1
        change ((c (setE as ρ) s').bnd _) = _ at hz1
        obtain ⟨k, s2, hc, hz2⟩ := bnd_ok hz1
        refine lc_turn C3 (h3.mono (e1.ff.trans (C.ext.ff.trans a1))) r hb hc hin hni fun σ2 F4 H4 C4 e34 en2 en hw => ?_
        cases k with
        | false =>
          refine iteF ⟨F4, acc, s2, zs, C4, ?_, ha, by omega⟩
          rw [if_neg Bool.false_ne_true] at hz2
          exact hz2
        | true =>
          rw [if_pos rfl] at hz2
          change ((f (setE as ρ) s2).bnd _) = _ at hz2
          obtain ⟨y', s3, hf, hz3⟩ := bnd_ok hz2
          change ((lcE b c f (xs.drop (i + 1)) ρ s3).bnd _) = _ at hz3
          obtain ⟨zs', s4, hz4, hq⟩ := bnd_ok hz3
          cases hq
          refine iteT ⟨F4, setE as ρ, s2, C4.ext.fh, C4.fd, en2, ?_⟩
          rw [hf]
          intro w F5 H5 e5 o5 r5
          have C5 := C4.step e5 o5
          obtain ⟨av, hD5, rl⟩ := id C5.at_
          refine ⟨av, hD5, by rw [← rl.length]; omega, F5, acc ++ [y'], s3, zs', C5.add hD5 r5, hz4, by rw [List.append_assoc]; exact ha, by simp; omega⟩
      · rintro H' ⟨F', acc, s', zs, C, hz, ha, hlen⟩
        rw [List.drop_length] at hz
        cases hz
        rw [List.append_nil] at ha
        subst ha
        obtain ⟨av, hD', rl⟩ := C.at_
        refine hg D' av F' H' (e1.trans C.ext) C.fd ?_ C.fD hD' rl
        cases z : H D' with
        | none => rfl
        | some u => exact absurd hD (e1.al D' (by rw [z]; simp))
    · rw [if_neg hl] at hg
      exact hg.elim
/-- [elt for tg in iter if ..] -/
theorem nd_lc {tg iter elt : Expr} {ifs : List Expr} {scope : Scope} {own : List (Str × Nat)} {pos : Pos} {it : Env' → M (List D)} {b : D → Option Asg} {c : Env' → M Bool} {f : Env' → M D} {ns : List Nat} (hc : X.calm = true) (hN : X.N.Nodup) (hi : IJ X fa Wσ tg iter it) (ok : BlkOk X.N X.env.scope scope own)
    (hin : ∀ n ∈ ns, n ∈ own.map (·.2)) (hni : ∀ n ∈ own.map (·.2), n ∈ ns)
    (hg : ∀ (s : Shared) (H : Hp) (C : Addr) (cl : List (Str × Addr)) (fp : List Addr), TJ (X.blk s H scope (compEnvC scope cl C X.env) fp) tg ns b) (ht : ∀ (s : Shared) (H : Hp) (C : Addr) (cl : List (Str × Addr)) (fp : List Addr), PTsD (X.blk s H scope (compEnvC scope cl C X.env) fp) fa Wno ifs c)
    (he : ∀ (s : Shared) (H : Hp) (C : Addr) (cl : List (Str × Addr)) (fp : List Addr), ED (X.blk s H scope (compEnvC scope cl C X.env) fp) fa Wno elt f) (hs : ∀ x, foldedSetIterable iter X.env x = pure x := by intro _; rfl) :
    ND X fa Wσ (.ListComp elt [⟨tg, iter, ifs, 0⟩] scope pos) (dLc it b c f) := by
  obtain ⟨wi, pi, ki⟩ := hi
  exact ⟨_, pe_lc hc hN pi ok (fun s H C cl fp => (hg s H C cl fp).star) (tt := tStarB X fa Wno c) (fun s H C cl fp => (ht s H C cl fp).star) (fun s H C cl fp => (he s H C cl fp).star) hs, nok_lc (tg := tg) (iter := iter) (elt := elt) ki hin hni⟩
/-- y = [..] -/
theorem sj_setLc {tg iter elt : Expr} {ifs : List Expr} {scope : Scope} {own : List (Str × Nat)} {pos spos py : Pos} {i : Nat} {y : Str} {it : Env' → M (List D)} {b : D → Option Asg} {c : Env' → M Bool} {f : Env' → M D} {ns : List Nat} (hc : X.calm = true) (hN : X.N.Nodup)
    (hi : IJ X fa (fun _ => W) tg iter it) (ok : BlkOk X.N X.env.scope scope own) (hin : ∀ n ∈ ns, n ∈ own.map (·.2)) (hni : ∀ n ∈ own.map (·.2), n ∈ ns)
    (hg : ∀ (s : Shared) (H : Hp) (C : Addr) (cl : List (Str × Addr)) (fp : List Addr), TJ (X.blk s H scope (compEnvC scope cl C X.env) fp) tg ns b) (ht : ∀ (s : Shared) (H : Hp) (C : Addr) (cl : List (Str × Addr)) (fp : List Addr), PTsD (X.blk s H scope (compEnvC scope cl C X.env) fp) fa Wno ifs c)
    (he : ∀ (s : Shared) (H : Hp) (C : Addr) (cl : List (Str × Addr)) (fp : List Addr), ED (X.blk s H scope (compEnvC scope cl C X.env) fp) fa Wno elt f)
    (hy : X.N[i]? = some y := by rfl) (hyl : X.env.scope.names.lookup y = some .local := by rfl) (hsw : swapsWith (.ListComp elt [⟨tg, iter, ifs, 0⟩] scope pos) (some (.Name y py)) spos.line X.env = pure true := by exact sw_true rfl rfl rfl (by decide +kernel)) (hs : ∀ x, foldedSetIterable iter X.env x = pure x := by intro _; rfl) :
    SJ X fa W (.Assign [.Name y py] (.ListComp elt [⟨tg, iter, ifs, 0⟩] scope pos) spos) (gSet i (vNew (dLc it b c f))) := by
  obtain ⟨wi, pi, ki⟩ := hi
  exact sj_asg (ps_setLc hc hN hy hyl hsw pi ok (fun s H C cl fp => (hg s H C cl fp).star) (tt := tStarB X fa Wno c) (fun s H C cl fp => (ht s H C cl fp).star) (fun s H C cl fp => (he s H C cl fp).star) hs) (vok_new (nok_lc (tg := tg) (iter := iter) (elt := elt) ki hin hni))
end
end DL

set_option Elab.async false
set_option linter.all false
set_option maxRecDepth 100000
set_option maxHeartbeats 2000000
/-! The data layer: owned lists and dicts changed; several targets. -/
namespace DL
open PySem PySem.Spec PyProof.Rows L2

section
variable {K : PySem.W.Frag} {fa : Option FA} {B F0 H0 F H : Hp} {A : Nat → Addr} {s : FS}
theorem SOk.pre {σ us : L2.St} {ρ es : Sts} (S : SOk K fa B F0 H0 F H A (σ ++ us) (ρ ++ es) s) (hl : σ.length = ρ.length) : SOk K fa B F0 H0 F H A σ ρ s := by
  refine ⟨S.ext, S.flr, S.fd, hl, fun i e h => ?_, fun i j e e' h h' => S.inj i j e e' (app_get h) (app_get h')⟩
  have z := S.slot i e (app_get h)
  rw [List.getElem?_append_left (by rw [hl]; exact (List.getElem?_eq_some_iff.mp h).1)] at z
  exact z
theorem RepL.of_get : ∀ {ds : List D} {ws : List V}, ds.length = ws.length → (∀ (k : Nat) d, ds[k]? = some d → ∃ w, ws[k]? = some w ∧ Rep K fa F d w) → RepL K fa F ds ws
  | [], [], _, _ => .nil
  | [], _ :: _, h, _ => by cases h
  | _ :: _, [], h, _ => by cases h
  | d :: ds, w :: ws, h, g => by
    obtain ⟨w', e, r⟩ := g 0 d rfl
    cases e
    exact .cons r (RepL.of_get (by simpa using h) fun k d' hd => g (k + 1) d' hd)
/-- the data on the stack -/
theorem SOk.top {σ : L2.St} {ρ : Sts} {ds : List D} {ws : List V} (S : SOk K fa B F0 H0 F H A (σ ++ ws.map some) (ρ ++ ds.map EV.d) s) (hl : σ.length = ρ.length) : RepL K fa F ds ws := by
  have hlen := S.len
  simp only [List.length_append, List.length_map] at hlen
  refine RepL.of_get (by omega) fun k d hd => ?_
  have hk : k < ds.length := (List.getElem?_eq_some_iff.mp hd).1
  have z := S.slot (ρ.length + k) (.d d) (by rw [List.getElem?_append_right (by omega), Nat.add_sub_cancel_left, List.getElem?_map, hd]; rfl)
  obtain ⟨v, e, r⟩ := z
  rw [List.getElem?_append_right (by omega), hl, Nat.add_sub_cancel_left, List.getElem?_map] at e
  cases q : ws[k]? with
  | none => rw [q] at e; cases e
  | some w =>
    rw [q] at e
    cases e
    exact ⟨_, rfl, r⟩
end

/-! ### lists of values at a statement -/
def GoodLV (X : Cx) (fa : Option FA) (W : XK) (B F0 H0 : Hp) (σ vs : L2.St) (evs : Sts) (r : Res (List D × Sts)) (Q : List V → Hp → Prop) : Prop :=
  match r with
  | .bad => False
  | .ok p s' => ∀ ws F' H' A', SOk X.K fa B F0 H0 F' H' A' (σ ++ vs ++ ws.map some) (p.2 ++ evs ++ p.1.map EV.d) s' → ws.length = p.1.length → Q ws H'
  | .err e s' => ∀ cls dd F' H', Ext fa F0 H0 F' H' → FeedOk X.K fa F' H' s' → RepX X.K X.mg fa F' H' e cls dd → W cls dd H'
def LVOk (X : Cx) (fa : Option FA) (W : XK) (t : TA) (f : Sts → M (List D × Sts)) : Prop :=
  ∀ (B F0 H0 F H : Hp) (A : Nat → Addr) (σ vs : L2.St) (ρ evs : Sts) (s : FS) (Q : List V → Hp → Prop), σ.length = ρ.length → SOk X.K fa B F0 H0 F H A (σ ++ vs) (ρ ++ evs) s → GoodLV X fa W B F0 H0 σ vs evs (f ρ s) Q → t σ H Q
def LVJ (X : Cx) (fa : Option FA) (W : XK) (es : List Expr) (f : Sts → M (List D × Sts)) : Prop := ∃ t, PA X es t ∧ LVOk X fa W t f
def lvNil : Sts → M (List D × Sts) := fun ρ => M.pure ([], ρ)
def lvCons (f : Sts → M (EV × Sts)) (g : Sts → M (List D × Sts)) : Sts → M (List D × Sts) := fun ρ => (f ρ).bind fun p => match p.1 with
  | .d x => (g p.2).bind fun q => M.pure (x :: q.1, q.2)
  | _ => M.bad
section
variable {X : Cx} {fa : Option FA} {W : XK} {a b c e o : Expr} {es rest : List Expr} {pos p apos cpos : Pos} {f fv : Sts → M (EV × Sts)} {fl : Sts → M (List D × Sts)}
theorem GoodLV.tgt {B F0 H0 : Hp} {σ vs : L2.St} {evs : Sts} {Q : List V → Hp → Prop} : TgtV X fa W F0 H0 (fun r => GoodLV X fa W B F0 H0 σ vs evs r Q) := ⟨fun h => h, fun _ _ h => h⟩
theorem lvj_nil : LVJ X fa W [] lvNil := ⟨_, pa_nil, fun B F0 H0 F H A σ vs ρ evs s Q hl S h => h [] F H A (by simpa using S) rfl⟩
theorem LVOk.then {t : TA} {β : Type} {g : List D × Sts → M β} {G : Res β → Prop} {B F0 H0 F H : Hp} {A : Nat → Addr} {σ vs : L2.St} {ρ evs : Sts} {s : FS} {Q : List V → Hp → Prop} (h : LVOk X fa W t fl) (T : TgtV X fa W F0 H0 G) (hl : σ.length = ρ.length)
    (S : SOk X.K fa B F0 H0 F H A (σ ++ vs) (ρ ++ evs) s) (hg : G ((fl ρ s).bnd g))
    (k : ∀ ds ρ' s' ws F' H' A', SOk X.K fa B F0 H0 F' H' A' (σ ++ vs) (ρ' ++ evs) s' → σ.length = ρ'.length → ws.length = ds.length → RepL X.K fa F' ds ws → G (g (ds, ρ') s') → Q ws H') : t σ H Q := by
  refine h B F0 H0 F H A σ vs ρ evs s Q hl S ?_
  generalize fl ρ s = r at hg
  cases r with
  | bad => exact absurd hg T.bad
  | err e s' => exact T.err e s' hg
  | ok q s' =>
    intro w F' H' A' S' hw
    have l1 := S'.len
    have l2 := S.len
    simp only [List.length_append, List.length_map] at l1 l2
    have l3 : (σ ++ vs).length = (q.2 ++ evs).length := by simp only [List.length_append]; omega
    exact k q.1 q.2 s' w F' H' A' (S'.pre l3) (by omega) hw (S'.top l3) hg
theorem lvj_cons (ha : VJ X fa W e f) (hr : LVJ X fa W es fl) (hs : starEach (e :: es) X.env = (false, eval e X.env) :: starEach es X.env := by rfl) : LVJ X fa W (e :: es) (lvCons f fl) := by
  obtain ⟨ta, pa, ka⟩ := ha
  obtain ⟨tr, pr, kr⟩ := hr
  refine ⟨_, pa_cons pa pr hs, fun B F0 H0 F H A σ vs ρ evs s Q hl S h => ?_⟩
  refine ka.then GoodLV.tgt hl S h fun ev ρ' s' w F' H' A' S' hl' h' => ?_
  cases ev with
  | d x =>
    rw [List.append_assoc, List.append_assoc] at S'
    have e2 : ∀ r, GoodLV X fa W B F0 H0 σ vs evs (Res.bnd r fun q => M.pure (x :: q.1, q.2)) Q → GoodLV X fa W B F0 H0 σ (vs ++ [some w]) (evs ++ [.d x]) r (fun ws H => Q (w :: ws) H) := fun r hr => by
      cases r with
      | bad => exact hr
      | err e s => exact hr
      | ok q s =>
        refine fun ws F2 H2 A2 S2 hw => hr (w :: ws) F2 H2 A2 ?_ (by simpa using hw)
        have e3 : σ ++ vs ++ (w :: ws).map some = σ ++ (vs ++ [some w]) ++ ws.map some := by simp
        have e4 : q.2 ++ evs ++ (x :: q.1).map EV.d = q.2 ++ (evs ++ [.d x]) ++ q.1.map EV.d := by simp
        show SOk X.K fa B F0 H0 F2 H2 A2 (σ ++ vs ++ (w :: ws).map some) (q.2 ++ evs ++ (x :: q.1).map EV.d) s
        rw [e3, e4]
        exact S2
    exact kr B F0 H0 F' H' A' σ (vs ++ [some w]) ρ' (evs ++ [.d x]) s' _ hl' S' (e2 _ h')
  | _ => exact h'.elim

/-! ### methods of an owned list -/
/-- the method's reading does mo: the content and the arguments give a result and a new content -/
def MoOk (X : Cx) (r : V → List V → Hp → VK → Prop) (mo : List D → List D → Option (D × List D)) : Prop :=
  ∀ (fa : Option FA) (F H : Hp) (p : Addr) (vs : List V) (xs as : List D) (ws : List V) (Q : VK) (d : D) (xs' : List D), H p = some (.lst vs) → RepL X.K fa F xs vs → RepL X.K fa F as ws → mo xs as = some (d, xs') →
    (∀ v vs', RepL X.K fa F xs' vs' → Rep X.K fa F d v → Q v (upd H p (.lst vs'))) → r (.ref p) ws H Q
def vMt (i : Nat) (mo : List D → List D → Option (D × List D)) (fl : Sts → M (List D × Sts)) : Sts → M (EV × Sts) := fun ρ => match ρ[i]? with
  | some (.ol _) => (fl ρ).bind fun q => match q.2[i]? with
    | some (.ol xs) => (M.lift (mo xs q.1)).bind fun z => M.pure (.d z.1, q.2.set i (.ol z.2))
    | _ => M.bad
  | _ => M.bad
theorem SOk.mutate {K : PySem.W.Frag} {B F0 H0 F H : Hp} {A : Nat → Addr} {σ vs : L2.St} {ρ evs : Sts} {s : FS} {i : Nat} {xs xs' : List D} {vs' : List V} {d : D} {v : V} (S : SOk K fa B F0 H0 F H A (σ ++ vs) (ρ ++ evs) s) (h : ρ[i]? = some (.ol xs)) (r : RepL K fa F xs' vs') (rd : Rep K fa F d v) :
    SOk K fa B F0 H0 F (upd H (A i) (.lst vs')) A (σ ++ vs ++ [some v]) (ρ.set i (.ol xs') ++ evs ++ [.d d]) s := by
  have hi : i < ρ.length := (List.getElem?_eq_some_iff.mp h).1
  obtain ⟨h1, h2, h3, h4, h5⟩ := (S.slot i _ (app_get h)).own_at rfl
  have S1 := S.write (ev' := .ol xs') (o := .lst vs') (app_get h) rfl rfl ⟨rfl, h2, h3, h4, vs', upd_same, r⟩
  rw [List.set_append_left _ _ hi] at S1
  exact S1.push rd
theorem vj_mt {i : Nat} {x m : Str} {id : String} {r : V → List V → Hp → VK → Prop} {mo : List D → List D → Option (D × List D)} (slot : Slot "list" m id) (hty : typeOf (.builtin id) = pure (.type "method_descriptor")) (hm : MtR X id r) (ok : MoOk X r mo) (hl : LVJ X fa W (e :: es) fl)
    (ho : PE X (.Name x p) (tVar i)) (hbase : attributeBase (.Name x p) m X.env (eval (.Name x p) X.env) = eval (.Name x p) X.env := by rfl)
    (hfew : ((backTo cpos (starEach (e :: es) X.env)).all (fun x => !x.1) && (backToKw cpos (keywordEach [] X.env)).all (fun x => x.1.isSome) && decide ((e :: es).length + ([] : List Keyword).length + (if ([] : List Keyword).isEmpty then 0 else 1) < 30)) = true := by rfl)
    (hline : (apos.endLine == cpos.line) = true := by rfl) (hs : starEach (e :: es) X.env = (false, eval e X.env) :: starEach es X.env := by rfl) (hplain : (backTo cpos (starEach es X.env)).any (·.1) = false := by rfl) :
    VJ X fa W (.Call (.Attribute (.Name x p) m apos) (e :: es) [] cpos) (vMt i mo fl) := by
  obtain ⟨tl, pl, kl⟩ := hl
  refine ⟨_, pe_bm PySem.F.plainAttrs_list slot hty hm ho pl hbase hfew hline hs hplain, fun B F0 H0 F H A σ vs ρ evs s Q hl S hg => ?_⟩
  unfold vMt at hg
  cases e1 : ρ[i]? with
  | none => rw [e1] at hg; exact hg.elim
  | some ev =>
    cases ev with
    | ol xs0 =>
      rw [e1] at hg
      obtain ⟨w0, f0, g0, n0, vs0, q0, r0⟩ := S.slot i _ (app_get e1)
      have hi : i < σ.length := by rw [hl]; exact (List.getElem?_eq_some_iff.mp e1).1
      rw [List.getElem?_append_left hi] at w0
      have w1 := join_some w0
      refine ⟨_, w1, .inl ⟨rfl, _, SqL.of q0⟩, ?_⟩
      refine kl.then GoodV.tgt hl S hg fun ds ρ' s' ws F' H' A' S' hl' hw rl h' => ?_
      change GoodV X fa W B F0 H0 σ vs evs ((match ρ'[i]? with
        | some (.ol xs) => (M.lift (mo xs ds)).bind fun z => M.pure (.d z.1, ρ'.set i (.ol z.2))
        | _ => M.bad : M (EV × Sts)) s') Q at h'
      cases e2 : ρ'[i]? with
      | none => rw [e2] at h'; exact h'.elim
      | some ev2 =>
        cases ev2 with
        | ol xs =>
          rw [e2] at h'
          obtain ⟨w2, f2, g2, n2, vs2, q2, r2⟩ := S'.slot i _ (app_get e2)
          rw [List.getElem?_append_left hi] at w2
          have w3 := join_some w2
          rw [w1] at w3
          have ea : A i = A' i := by
            injection w3 with w3
            injection w3 with w3
            injection w3
          change GoodV X fa W B F0 H0 σ vs evs (((M.lift (mo xs ds)).bind _) s') Q at h'
          cases e3 : mo xs ds with
          | none => rw [e3] at h'; exact h'.elim
          | some z =>
            rw [e3] at h'
            obtain ⟨d, xs'⟩ := z
            rw [ea]
            exact ok fa F' H' (A' i) vs2 xs ds ws _ d xs' q2 r2 rl e3 fun v vs' rx rd => h' v F' _ A' (S'.mutate e2 rx rd)
        | _ => rw [e2] at h'; exact h'.elim
    | _ => rw [e1] at hg; exact hg.elim
theorem vj_mt0 {i : Nat} {x m : Str} {id : String} {r : V → List V → Hp → VK → Prop} {mo : List D → List D → Option (D × List D)} (slot : Slot "list" m id) (hty : typeOf (.builtin id) = pure (.type "method_descriptor")) (hm : MtR X id r) (ok : MoOk X r mo)
    (ho : PE X (.Name x p) (tVar i)) (hbase : attributeBase (.Name x p) m X.env (eval (.Name x p) X.env) = eval (.Name x p) X.env := by rfl) (hline : (apos.endLine == cpos.line) = true := by rfl) :
    VJ X fa W (.Call (.Attribute (.Name x p) m apos) [] [] cpos) (vMt i mo lvNil) := by
  refine ⟨_, pe_bm0 PySem.F.plainAttrs_list slot hty hm ho hbase hline, fun B F0 H0 F H A σ vs ρ evs s Q hl S hg => ?_⟩
  unfold vMt at hg
  cases e1 : ρ[i]? with
  | none => rw [e1] at hg; exact hg.elim
  | some ev =>
    cases ev with
    | ol xs =>
      rw [e1] at hg
      change GoodV X fa W B F0 H0 σ vs evs ((match ρ[i]? with
        | some (.ol xs) => (M.lift (mo xs [])).bind fun z => M.pure (.d z.1, ρ.set i (.ol z.2))
        | _ => M.bad : M (EV × Sts)) s) Q at hg
      rw [e1] at hg
      obtain ⟨w0, f0, g0, n0, vs0, q0, r0⟩ := S.slot i _ (app_get e1)
      have hi : i < σ.length := by rw [hl]; exact (List.getElem?_eq_some_iff.mp e1).1
      rw [List.getElem?_append_left hi] at w0
      refine ⟨_, join_some w0, .inl ⟨rfl, _, SqL.of q0⟩, ?_⟩
      change GoodV X fa W B F0 H0 σ vs evs (((M.lift (mo xs [])).bind _) s) Q at hg
      cases e3 : mo xs [] with
      | none => rw [e3] at hg; exact hg.elim
      | some z =>
        rw [e3] at hg
        obtain ⟨d, xs'⟩ := z
        exact ok fa F H (A i) vs0 xs [] [] _ d xs' q0 r0 .nil e3 fun v vs' rx rd => hg v F _ A (S.mutate e1 rx rd)
    | _ => rw [e1] at hg; exact hg.elim
def moAppend : List D → List D → Option (D × List D)
  | xs, [y] => if xs.length < sizeLine then some (.non, xs ++ [y]) else none
  | _, _ => none
theorem ok_append : MoOk X rAppend moAppend := by
  intro fa F H p vs xs as ws Q d xs' h r ra e k
  cases ra with
  | nil => cases e
  | cons ry rr =>
    cases rr with
    | cons _ _ => cases e
    | nil =>
      rename_i y w
      by_cases hz : xs.length < sizeLine
      · rw [show moAppend xs [y] = some (.non, xs ++ [y]) from if_pos hz] at e
        cases e
        exact ⟨p, vs, w, rfl, rfl, h, by rw [← r.length]; exact hz, k _ _ (r.append (.cons ry .nil)) .non⟩
      · rw [show moAppend xs [y] = none from if_neg hz] at e
        cases e
def moInsert : List D → List D → Option (D × List D)
  | xs, [.int i, y] => if xs.length < sizeLine ∧ 0 ≤ i ∧ i < 2 ^ 63 then some (.non, xs.take i.toNat ++ [y] ++ xs.drop i.toNat) else none
  | _, _ => none
theorem ok_insert : MoOk X (fun x vs H Q => ∃ (l : Addr) (xs : List V) (i : Int) (y : V), x = .ref l ∧ vs = [.int i, y] ∧ H l = some (.lst xs) ∧ xs.length < sizeLine ∧ 0 ≤ i ∧ i < 2 ^ 63 ∧ Q .non (upd H l (.lst (xs.take i.toNat ++ [y] ++ xs.drop i.toNat)))) moInsert := by
  intro fa F H p vs xs as ws Q d xs' h r ra e k
  cases ra with
  | nil => cases e
  | cons ri rr =>
    cases rr with
    | nil => cases ri <;> cases e
    | cons ry r3 =>
      cases r3 with
      | cons _ _ => cases ri <;> cases e
      | nil =>
        rename_i y w
        cases ri with
        | int i =>
          by_cases hz : xs.length < sizeLine ∧ 0 ≤ i ∧ i < 2 ^ 63
          · rw [show moInsert xs [.int i, y] = some (.non, xs.take i.toNat ++ [y] ++ xs.drop i.toNat) from if_pos hz] at e
            cases e
            exact ⟨p, vs, i, w, rfl, rfl, h, by rw [← r.length]; exact hz.1, hz.2.1, hz.2.2, k _ _ (((r.take _).append (.cons ry .nil)).append (r.drop _)) .non⟩
          · rw [show moInsert xs [.int i, y] = none from if_neg hz] at e
            cases e
        | _ => cases e
/-- pop(i), 0 ≤ i below the length -/
def moPopAt : List D → List D → Option (D × List D)
  | xs, [.int i] => if 0 ≤ i ∧ i < 2 ^ 63 then (xs[i.toNat]?).map fun y => (y, xs.eraseIdx i.toNat) else none
  | _, _ => none
theorem RepL.eraseIdx {K : PySem.W.Frag} {F : Hp} : ∀ {ds : List D} {vs : List V} (i : Nat), RepL K fa F ds vs → RepL K fa F (ds.eraseIdx i) (vs.eraseIdx i)
  | _, _, _, .nil => .nil
  | _, _, 0, .cons _ t => t
  | _, _, i + 1, .cons r t => .cons r (RepL.eraseIdx i t)
theorem seqIndex_nat {n : Nat} {i : Int} (h0 : 0 ≤ i) (h : i.toNat < n) : seqIndex? i n = some i.toNat := by
  have z : ixN n i = some i.toNat := by
    unfold ixN
    rw [if_pos h0, if_pos (by omega)]
  exact (ixN_seq z).1
theorem ok_popAt : MoOk X rPopAt moPopAt := by
  intro fa F H p vs xs as ws Q d xs' h r ra e k
  cases ra with
  | nil => cases e
  | cons ri rr =>
    cases rr with
    | cons _ _ => cases ri <;> cases e
    | nil =>
      cases ri with
      | int i =>
        by_cases hz : 0 ≤ i ∧ i < 2 ^ 63
        · rw [show moPopAt xs [.int i] = (xs[i.toNat]?).map fun y => (y, xs.eraseIdx i.toNat) from if_pos hz] at e
          cases q : xs[i.toNat]? with
          | none => rw [q] at e; cases e
          | some y =>
            rw [q] at e
            cases e
            obtain ⟨w, hw, rw'⟩ := r.get' q
            have hlt : i.toNat < vs.length := (List.getElem?_eq_some_iff.mp hw).1
            exact ⟨p, vs, i, i.toNat, w, rfl, rfl, h, by omega, hz.2, seqIndex_nat hz.1 hlt, hw, k _ _ (r.eraseIdx _) rw'⟩
        · rw [show moPopAt xs [.int i] = none from if_neg hz] at e
          cases e
      | _ => cases e
end
end DL

set_option Elab.async false
set_option linter.all false
set_option maxRecDepth 100000
set_option maxHeartbeats 2000000
/-! The data layer: stores, several targets. -/
namespace DL
open PySem PySem.Spec PyProof.Rows L2

def gAsgT (b : D → Option Asg) (f : Sts → M (EV × Sts)) : Sts → M (Fl × Sts) := fun ρ => (f ρ).bind fun p => match p.1 with
  | .d x => (M.lift (b x)).bind fun as => M.pure (.nx, setS as p.2)
  | _ => M.bad
def gPar (i j : Nat) (f g : Sts → M (EV × Sts)) : Sts → M (Fl × Sts) := fun ρ => if i < ρ.length ∧ j < ρ.length then (f ρ).bind fun p => (g p.2).bind fun q => M.pure (.nx, (q.2.set i p.1).set j q.1) else M.bad
def gPar3 (i j l : Nat) (f g h : Sts → M (EV × Sts)) : Sts → M (Fl × Sts) := fun ρ => if i < ρ.length ∧ j < ρ.length ∧ l < ρ.length then (f ρ).bind fun p => (g p.2).bind fun q => (h q.2).bind fun r => M.pure (.nx, ((r.2.set i p.1).set j q.1).set l r.1) else M.bad
def keyD : D → Option Key
  | .int i => some (.inl i)
  | .str x => some (.inr x)
  | _ => none
def putD (xs : List (Key × D)) (k : Key) (v : D) : List (Key × D) :=
  if (xs.any fun kv => decide (kv.1 = k)) = true then xs.map (fun kv => if kv.1 = k then (kv.1, v) else kv) else xs ++ [(k, v)]
/-- x[k] = v of an owned list at slot i -/
def gStL (i : Nat) (fv fk : Sts → M (EV × Sts)) : Sts → M (Fl × Sts) := fun ρ => (fv ρ).bind fun p => match p.2[i]? with
  | some (.ol _) => (fk p.2).bind fun q => match p.1, q.1, q.2[i]? with
    | .d y, .d (.int k), some (.ol xs) => (M.lift (ixN xs.length k)).bind fun j => M.pure (.nx, q.2.set i (.ol (xs.set j y)))
    | _, _, _ => M.bad
  | _ => M.bad
/-- x[k] = v of an owned dict at slot i -/
def gStD (i : Nat) (fv fk : Sts → M (EV × Sts)) : Sts → M (Fl × Sts) := fun ρ => (fv ρ).bind fun p => match p.2[i]? with
  | some (.od _) => (fk p.2).bind fun q => match p.1, q.1, q.2[i]? with
    | .d y, .d kk, some (.od xs) => (M.lift (keyD kk)).bind fun k => if xs.length < sizeLine then M.pure (.nx, q.2.set i (.od (putD xs k y))) else M.bad
    | _, _, _ => M.bad
  | _ => M.bad
section
variable {X : Cx} {fa : Option FA} {W : XK} {a b c e o tg : Expr} {es rest : List Expr} {pos p apos cpos px py pz pt : Pos} {f g h fv fk : Sts → M (EV × Sts)} {ns : List Nat} {bb : D → Option Asg} {B F0 H0 F H : Hp} {s : FS}
/-- targets = a value -/
theorem sj_asgT (hv : VJ X fa W e f) (hg : TJ X tg ns bb) (hs : swapsWithSole [tg] e pos.line X.env = pure false := by rfl) (hw : swappedStores [tg] e X.env = pure none := by rfl) (h1 : (assignEach [tg] X.env).map (·.2) = [assign tg X.env] := by rfl) : SJ X fa W (.Assign [tg] e pos) (gAsgT bb f) := by
  obtain ⟨t, p, k⟩ := hv
  obtain ⟨gt, pg, kg⟩ := hg
  refine ⟨_, ps_asg p pg hs hw h1, fun B F0 H0 F H A σ ρ s Dn S hgood => ?_⟩
  refine k.then (vs := []) (evs := []) GoodS.tgt S.len (by rw [app0, app0]; exact S) hgood fun ev ρ' s' w F' H' A' S' hl h' => ?_
  rw [app0, app0] at S'
  cases ev with
  | d x =>
    change GoodS X fa W B F0 H0 (((M.lift (bb x)).bind _) s') Dn at h'
    cases q : bb x with
    | none => rw [q] at h'; exact h'.elim
    | some as =>
      rw [q] at h'
      have S2 := S'.drop hl
      have S1 : SOk X.K fa B F0 H0 F' H' A' (σ ++ [w].map some) (ρ' ++ [x].map EV.d) s' := S'
      have rl := S1.top hl
      cases rl with
      | cons r _ =>
        refine kg fa F' H' x w σ _ as S2.ext.fh r q fun ws hws _ => ?_
        obtain ⟨A2, S3⟩ := S2.setS hws
        exact h' _ F' H' A2 S3
  | _ => exact h'.elim
theorem two_pop {A : Nat → Addr} {σ : L2.St} {ρ : Sts} {u v : V} {eu ev : EV} {K : PySem.W.Frag} (S : SOk K fa B F0 H0 F H A (σ ++ [some u] ++ [some v]) (ρ ++ [eu] ++ [ev]) s) (hl : σ.length = ρ.length) {i j : Nat} (hij : i ≠ j) (hi : i < ρ.length) (hj : j < ρ.length) :
    ∃ A', SOk K fa B F0 H0 F H A' ((σ.set i (some u)).set j (some v)) ((ρ.set i eu).set j ev) s := by
  have S1 := S.pop (by simp [hl]) j
  rw [List.set_append_left _ _ (by omega), List.set_append_left _ _ (by omega)] at S1
  have S2 := S1.pop (by simp [hl]) i
  rw [List.set_comm _ _ (Ne.symm hij), List.set_comm _ _ (Ne.symm hij)] at S2
  exact ⟨_, S2⟩
theorem sj_par {i j : Nat} {x y : Str} {kt : Nat} {k2 : Nat} {pt2 : Pos} (hc : X.calm = true) (hN : X.N.Nodup) (ha : VJ X fa W a f) (hb : VJ X fa W b g) (hi : X.N[i]? = some x := by rfl) (hj : X.N[j]? = some y := by rfl) (hij : i ≠ j := by decide)
    (hx : X.env.scope.names.lookup x = some .local := by rfl) (hy : X.env.scope.names.lookup y = some .local := by rfl)
    (hw : swappedStores [.Tuple [.Name x px, .Name y py] kt pt] (.Tuple [a, b] k2 pt2) X.env = pure (some [x, y]) := by rfl)
    (hs : swapsWithSole [.Tuple [.Name x px, .Name y py] kt pt] (.Tuple [a, b] k2 pt2) pos.line X.env = pure false := by rfl) (e1 : starEach [a, b] X.env = (false, eval a X.env) :: starEach [b] X.env := by rfl) (e2 : starEach [b] X.env = (false, eval b X.env) :: starEach [] X.env := by rfl) :
    SJ X fa W (.Assign [.Tuple [.Name x px, .Name y py] kt pt] (.Tuple [a, b] k2 pt2) pos) (gPar i j f g) := by
  obtain ⟨ta, pa, ka⟩ := ha
  obtain ⟨tb, pb, kb⟩ := hb
  refine ⟨_, ps_par hc hN hi hj hij hx hy (pa_cons pa (pa_cons pb pa_nil e2) e1) hw hs, fun B F0 H0 F H A σ ρ s Dn S hgood => ?_⟩
  by_cases hlt : i < ρ.length ∧ j < ρ.length
  · unfold gPar at hgood; rw [if_pos hlt] at hgood
    refine ka.then (vs := []) (evs := []) GoodS.tgt S.len (by rw [app0, app0]; exact S) hgood fun eu ρ1 s1 u F1 H1 A1 S1 hl1 h1 => ?_
    rw [app0, app0] at S1
    refine kb.then (vs := [some u]) (evs := [eu]) GoodS.tgt hl1 S1 h1 fun ev ρ2 s2 v F2 H2 A2 S2 hl2 h2 => ?_
    refine ⟨u, v, rfl, ?_⟩
    obtain ⟨A3, S3⟩ := two_pop S2 hl2 hij (by rw [← hl2, S.len]; exact hlt.1) (by rw [← hl2, S.len]; exact hlt.2)
    exact h2 _ F2 H2 A3 S3
  · unfold gPar at hgood; rw [if_neg hlt] at hgood
    exact hgood.elim
theorem sj_par3 {i j l : Nat} {x y z : Str} {kt : Nat} {k2 : Nat} {pt2 : Pos} (hc : X.calm = true) (hN : X.N.Nodup) (ha : VJ X fa W a f) (hb : VJ X fa W b g) (hd : VJ X fa W c h) (hi : X.N[i]? = some x := by rfl) (hj : X.N[j]? = some y := by rfl) (hk : X.N[l]? = some z := by rfl) (hij : i ≠ j := by decide) (hil : i ≠ l := by decide) (hjl : j ≠ l := by decide)
    (hx : X.env.scope.names.lookup x = some .local := by rfl) (hy : X.env.scope.names.lookup y = some .local := by rfl) (hz : X.env.scope.names.lookup z = some .local := by rfl)
    (hw : swappedStores [.Tuple [.Name x px, .Name y py, .Name z pz] kt pt] (.Tuple [a, b, c] k2 pt2) X.env = pure (some [x, y, z]) := by rfl)
    (hs : swapsWithSole [.Tuple [.Name x px, .Name y py, .Name z pz] kt pt] (.Tuple [a, b, c] k2 pt2) pos.line X.env = pure false := by rfl) (e1 : starEach [a, b, c] X.env = (false, eval a X.env) :: starEach [b, c] X.env := by rfl) (e2 : starEach [b, c] X.env = (false, eval b X.env) :: starEach [c] X.env := by rfl) (e3 : starEach [c] X.env = (false, eval c X.env) :: starEach [] X.env := by rfl) :
    SJ X fa W (.Assign [.Tuple [.Name x px, .Name y py, .Name z pz] kt pt] (.Tuple [a, b, c] k2 pt2) pos) (gPar3 i j l f g h) := by
  obtain ⟨ta, pa, ka⟩ := ha
  obtain ⟨tb, pb, kb⟩ := hb
  obtain ⟨td, pd, kd⟩ := hd
  refine ⟨_, ps_par3 hc hN hi hj hk hij hil hjl hx hy hz (pa_cons pa (pa_cons pb (pa_cons pd pa_nil e3) e2) e1) hw hs, fun B F0 H0 F H A σ ρ s Dn S hgood => ?_⟩
  by_cases hlt : i < ρ.length ∧ j < ρ.length ∧ l < ρ.length
  · unfold gPar3 at hgood; rw [if_pos hlt] at hgood
    refine ka.then (vs := []) (evs := []) GoodS.tgt S.len (by rw [app0, app0]; exact S) hgood fun eu ρ1 s1 u F1 H1 A1 S1 hl1 h1 => ?_
    rw [app0, app0] at S1
    refine kb.then (vs := [some u]) (evs := [eu]) GoodS.tgt hl1 S1 h1 fun ev ρ2 s2 v F2 H2 A2 S2 hl2 h2 => ?_
    rw [List.append_assoc, List.append_assoc] at S2
    refine kd.then (vs := [some u] ++ [some v]) (evs := [eu] ++ [ev]) GoodS.tgt hl2 S2 h2 fun ew ρ3 s3 w F3 H3 A3 S3 hl3 h3 => ?_
    refine ⟨u, v, w, rfl, ?_⟩
    have n3 : ρ3.length = ρ.length := by rw [← hl3, S.len]
    have S4 := S3.pop (by simp [hl3]) l
    rw [List.set_append_left _ _ (by rw [hl3]; omega), List.set_append_left _ _ (by omega)] at S4
    simp only [← List.append_assoc] at S4
    obtain ⟨A5, S5⟩ := two_pop S4 (by simp [hl3]) hij (by simp; omega) (by simp; omega)
    have c1 : ∀ {α : Type} (L : List α) (q1 q2 q3 : α), ((L.set l q3).set i q1).set j q2 = ((L.set i q1).set j q2).set l q3 := fun L q1 q2 q3 => by
      rw [List.set_comm _ _ (Ne.symm hil), List.set_comm _ _ (Ne.symm hjl)]
    rw [c1, c1] at S5
    exact h3 _ F3 H3 A5 S5
  · unfold gPar3 at hgood; rw [if_neg hlt] at hgood
    exact hgood.elim

/-! ### stores -/
theorem RepK.any {K : PySem.W.Frag} (k : Key) : ∀ {xs : List (Key × D)} {vs : List (Key × V)}, RepK K fa F xs vs → (xs.any fun kv => decide (kv.1 = k)) = vs.any fun kv => decide (kv.1 = k)
  | _, _, .nil => rfl
  | _, _, .cons r t => by rw [List.any_cons, List.any_cons, RepK.any k t]
theorem RepK.put {K : PySem.W.Frag} {y : D} {v : V} (k : Key) (r : Rep K fa F y v) : ∀ {xs : List (Key × D)} {vs : List (Key × V)}, RepK K fa F xs vs → RepK K fa F (xs.map fun kv => if kv.1 = k then (kv.1, y) else kv) (vs.map fun kv => if kv.1 = k then (kv.1, v) else kv)
  | _, _, .nil => .nil
  | (k', d) :: _, _ :: _, .cons rd t => by
    rw [List.map_cons, List.map_cons]
    by_cases e : k' = k
    · rw [if_pos e, if_pos e]
      exact .cons r (RepK.put k r t)
    · rw [if_neg e, if_neg e]
      exact .cons rd (RepK.put k r t)
theorem RepK.app1 {K : PySem.W.Frag} {y : D} {v : V} {k : Key} (r : Rep K fa F y v) : ∀ {xs : List (Key × D)} {vs : List (Key × V)}, RepK K fa F xs vs → RepK K fa F (xs ++ [(k, y)]) (vs ++ [(k, v)])
  | _, _, .nil => .cons r .nil
  | _, _, .cons rd t => .cons rd (RepK.app1 r t)
theorem putK_eq {K : PySem.W.Frag} {y : D} {v : V} (k : Key) (r : Rep K fa F y v) {xs : List (Key × D)} {vs : List (Key × V)} (h : RepK K fa F xs vs) : RepK K fa F (putD xs k y) (putK vs k v) := by
  unfold putD putK
  rw [h.any k]
  split
  · exact h.put k r
  · exact h.app1 r
theorem RepK.length {K : PySem.W.Frag} : ∀ {ds : List (Key × D)} {vs : List (Key × V)}, RepK K fa F ds vs → ds.length = vs.length
  | _, _, .nil => rfl
  | _, _, .cons _ t => congrArg (· + 1) (RepK.length t)
theorem RepL.setI {K : PySem.W.Frag} {y : D} {v : V} : ∀ (j : Nat) {ds : List D} {vs : List V}, Rep K fa F y v → RepL K fa F ds vs → RepL K fa F (ds.set j y) (vs.set j v)
  | _, _, _, _, .nil => .nil
  | 0, _, _, r, .cons _ t => .cons r t
  | j + 1, _, _, r, .cons q t => .cons q (RepL.setI j r t)
theorem key_rep {K : PySem.W.Frag} {d : D} {v : V} {k : Key} (h : keyD d = some k) (r : Rep K fa F d v) : v = kV k := by
  cases r <;> first | (cases h; rfl) | cases h
/-- the value is on the stack, the key behind it -/
theorem sj_stL {i : Nat} {x : Str} {pos' : Pos} (hv : VJ X fa W e fv) (hk : VJ X fa W c fk) (ho : PE X (.Name x p) (tVar i)) (hs : swapsWithSole [.Subscript (.Name x p) c pos'] e pos.line X.env = pure false := by rfl) (hw : swappedStores [.Subscript (.Name x p) c pos'] e X.env = pure none := by rfl)
    (h1 : (assignEach [.Subscript (.Name x p) c pos'] X.env).map (·.2) = [assign (.Subscript (.Name x p) c pos') X.env] := by rfl)
    (ha : ∀ v, assign (.Subscript (.Name x p) c pos') X.env v = (do
      let ov ← holding [v] (eval (.Name x p) X.env)
      let iv ← holding [v, ov] (eval c X.env)
      standAt pos'
      holding [v, ov, iv] (setItem ov iv v)
      release [v, ov, iv] []) := by intro _; rfl) :
    SJ X fa W (.Assign [.Subscript (.Name x p) c pos'] e pos) (gStL i fv fk) := by
  obtain ⟨tv, pv', kv⟩ := hv
  obtain ⟨tk, pk, kk⟩ := hk
  refine ⟨_, ps_asg pv' (pg_sub ho pk set_list ha) hs hw h1, fun B F0 H0 F H A σ ρ s Dn S hgood => ?_⟩
  refine kv.then (vs := []) (evs := []) GoodS.tgt S.len (by rw [app0, app0]; exact S) hgood fun ev ρ1 s1 w F1 H1 A1 S1 hl1 h1 => ?_
  rw [app0, app0] at S1
  dsimp only at h1
  cases e1 : ρ1[i]? with
  | none => rw [e1] at h1; exact h1.elim
  | some ev1 =>
    cases ev1 with
    | ol xs0 =>
      rw [e1] at h1
      obtain ⟨w0, f0, g0, n0, vs0, q0, r0⟩ := S1.slot i _ (app_get e1)
      have hi : i < σ.length := by rw [hl1]; exact (List.getElem?_eq_some_iff.mp e1).1
      rw [List.getElem?_append_left hi] at w0
      have w1 := join_some w0
      refine ⟨_, w1, ?_⟩
      refine kk.then (vs := [some w]) (evs := [ev]) GoodS.tgt hl1 S1 h1 fun ek ρ2 s2 u F2 H2 A2 S2 hl2 h2 => ?_
      cases ev with
      | d y =>
        cases ek with
        | d kd =>
          cases kd with
          | int k =>
            dsimp only at h2
            cases e2 : ρ2[i]? with
            | none => rw [e2] at h2; exact h2.elim
            | some ev2 =>
              cases ev2 with
              | ol xs =>
                rw [e2] at h2
                have S2' : SOk X.K fa B F0 H0 F2 H2 A2 (σ ++ [w, u].map some) (ρ2 ++ [y, .int k].map EV.d) s2 := by simpa using S2
                have rl := S2'.top hl2
                have S3 := S2'.pre hl2
                obtain ⟨w2, f2, g2, n2, vs2, q2, r2⟩ := S3.slot i _ e2
                have w3 := join_some w2
                rw [w1] at w3
                have ea : A1 i = A2 i := by
                  injection w3 with w3
                  injection w3 with w3
                  injection w3
                change GoodS X fa W B F0 H0 (((M.lift (ixN xs.length k)).bind _) s2) Dn at h2
                cases e3 : ixN xs.length k with
                | none => rw [e3] at h2; exact h2.elim
                | some j =>
                  rw [e3] at h2
                  cases rl with
                  | cons ry rl =>
                    cases rl with
                    | cons rk _ =>
                      cases rk
                      refine ⟨_, vs2, k, j, rfl, rfl, by rw [ea]; exact q2, by rw [← r2.length]; exact e3, ?_⟩
                      rw [ea]
                      exact h2 σ F2 _ A2 (S3.write (ev' := .ol (xs.set j y)) e2 rfl rfl ⟨rfl, f2, g2, n2, _, upd_same, RepL.setI j ry r2⟩)
              | _ => rw [e2] at h2; exact h2.elim
          | _ => exact h2.elim
        | _ => exact h2.elim
      | _ => exact h2.elim
    | _ => rw [e1] at h1; exact h1.elim
theorem sj_stD {i : Nat} {x : Str} {pos' : Pos} (hu : X.A.units + 1 < cLine) (hv : VJ X fa W e fv) (hk : VJ X fa W c fk) (ho : PE X (.Name x p) (tVar i)) (hs : swapsWith e (some (.Subscript (.Name x p) c pos')) pos.line X.env = pure false := by rfl) :
    SJ X fa W (.Assign [.Subscript (.Name x p) c pos'] e pos) (gStD i fv fk) := by
  obtain ⟨tv, pv', kv⟩ := hv
  obtain ⟨tk, pk, kk⟩ := hk
  refine ⟨_, ps_dput hu ho pk pv' hs, fun B F0 H0 F H A σ ρ s Dn S hgood => ?_⟩
  refine kv.then (vs := []) (evs := []) GoodS.tgt S.len (by rw [app0, app0]; exact S) hgood fun ev ρ1 s1 w F1 H1 A1 S1 hl1 h1 => ?_
  rw [app0, app0] at S1
  dsimp only at h1
  cases e1 : ρ1[i]? with
  | none => rw [e1] at h1; exact h1.elim
  | some ev1 =>
    cases ev1 with
    | od xs0 =>
      rw [e1] at h1
      obtain ⟨w0, f0, g0, n0, vs0, q0, r0⟩ := S1.slot i _ (app_get e1)
      have hi : i < σ.length := by rw [hl1]; exact (List.getElem?_eq_some_iff.mp e1).1
      rw [List.getElem?_append_left hi] at w0
      have w1 := join_some w0
      refine ⟨_, w1, ?_⟩
      refine kk.then (vs := [some w]) (evs := [ev]) GoodS.tgt hl1 S1 h1 fun ek ρ2 s2 u F2 H2 A2 S2 hl2 h2 => ?_
      cases ev with
      | d y =>
        cases ek with
        | d kd =>
          dsimp only at h2
          cases e2 : ρ2[i]? with
          | none => rw [e2] at h2; exact h2.elim
          | some ev2 =>
            cases ev2 with
            | od xs =>
              rw [e2] at h2
              have S2' : SOk X.K fa B F0 H0 F2 H2 A2 (σ ++ [w, u].map some) (ρ2 ++ [y, kd].map EV.d) s2 := by simpa using S2
              have rl := S2'.top hl2
              have S3 := S2'.pre hl2
              obtain ⟨w2, f2, g2, n2, vs2, q2, r2⟩ := S3.slot i _ e2
              have w3 := join_some w2
              rw [w1] at w3
              have ea : A1 i = A2 i := by
                injection w3 with w3
                injection w3 with w3
                injection w3
              change GoodS X fa W B F0 H0 (((M.lift (keyD kd)).bind _) s2) Dn at h2
              cases e3 : keyD kd with
              | none => rw [e3] at h2; exact h2.elim
              | some k =>
                rw [e3] at h2
                change GoodS X fa W B F0 H0 ((if xs.length < sizeLine then M.pure (.nx, ρ2.set i (.od (putD xs k y))) else M.bad) s2) Dn at h2
                by_cases hz : xs.length < sizeLine
                · rw [if_pos hz] at h2
                  cases rl with
                  | cons ry rl =>
                    cases rl with
                    | cons rk _ =>
                      rw [key_rep e3 rk]
                      rw [ea]
                      refine ⟨_, _, rfl, DPut.k (k := k) q2 (by rw [← r2.length]; exact hz), ?_⟩
                      exact h2 σ F2 _ A2 (S3.write (ev' := .od (putD xs k y)) e2 rfl rfl ⟨rfl, f2, g2, n2, _, upd_same, putK_eq k ry r2⟩)
                · rw [if_neg hz] at h2
                  exact h2.elim
            | _ => rw [e2] at h2; exact h2.elim
        | _ => exact h2.elim
      | _ => exact h2.elim
    | _ => rw [e1] at h1; exact h1.elim
end
end DL

set_option Elab.async false
set_option linter.all false
set_option maxRecDepth 100000
set_option maxHeartbeats 2000000
/-! The data layer: operators, built-ins. -/
namespace DL
open PySem PySem.Spec PyProof.Rows L2

theorem OpR.or {X : Cx} {f : Value → Value → Sem Value} {r r' : R2} (h : OpR X f r) (h' : OpR X f r') : OpR X f (fun x y H Q => r x y H Q ∨ r' x y H Q) :=
  fun pins s σ H x y v u Q I rx ry q => q.elim (h pins s σ H x y v u Q I rx ry) (h' pins s σ H x y v u Q I rx ry)

/-! ### arithmetic -/
def addD : D → D → Option D
  | .int a, .int b => some (.int (a + b))
  | .str a, .str b => if a.length + b.length ≤ sizeLine then some (.str (a ++ b)) else none
  | .lst a, .lst b => if a.length + b.length ≤ sizeLine then some (.lst (a ++ b)) else none
  | .tup a, .tup b => if a.length + b.length ≤ sizeLine then some (.tup (a ++ b)) else none
  | _, _ => none
def subD : D → D → Option D
  | .int a, .int b => some (.int (a - b))
  | _, _ => none
def mulD : D → D → Option D
  | .int a, .int b => if (-(2 ^ 64) < a ∧ a < 2 ^ 64) ∨ (-(2 ^ 64) < b ∧ b < 2 ^ 64) then some (.int (a * b)) else none
  | .lst xs, .int k => if -(2 ^ 63) ≤ k ∧ k < 2 ^ 63 ∧ xs.length * k.toNat ≤ sizeLine then some (.lst (List.replicate k.toNat xs).flatten) else none
  | _, _ => none
def modD : D → D → Option D
  | .int a, .int b => if 0 < b then some (.int (a % b)) else none
  | _, _ => none
def fdivD : D → D → Option D
  | .int a, .int b => if 0 < b ∧ b < 1073741824 then some (.int (a / b)) else none
  | _, _ => none
def powD : D → D → Option D
  | .int a, .int b => if 0 ≤ b ∧ b ≤ 1000000 ∧ a.natAbs < 2 ^ 64 then some (.int (a ^ b.toNat)) else none
  | _, _ => none
def negD : D → Option D
  | .int a => some (.int (-a))
  | _ => none
section
variable {X : Cx} {fa : Option FA}
theorem opr_add : OpR X (binaryOp .Add) (fun x y H Q => rI0 (fun i j => .int (i + j)) x y H Q ∨ ((∃ i j, x = .str i ∧ y = .str j ∧ i.length + j.length ≤ sizeLine ∧ Q (.str (i ++ j)) H) ∨ (rCat x y H Q ∨ rCatA X.K x y H Q))) :=
  OpR.or op_add (OpR.or op_add_str (OpR.or op_cat op_catA))
theorem ok_add : OpOk X fa (fun x y H Q => rI0 (fun i j => .int (i + j)) x y H Q ∨ ((∃ i j, x = .str i ∧ y = .str j ∧ i.length + j.length ≤ sizeLine ∧ Q (.str (i ++ j)) H) ∨ (rCat x y H Q ∨ rCatA X.K x y H Q))) addD := by
  intro F H s x y a b Q h1 h2 ra rb h
  cases ra with
  | int i =>
    cases rb with
    | int j => exact .inl ⟨i, j, rfl, rfl, GoodO.here h1 h2 (.int _) h⟩
    | _ => exact h.elim
  | str i =>
    cases rb with
    | str j =>
      by_cases hl : i.length + j.length ≤ sizeLine
      · rw [show addD (.str i) (.str j) = some (.str (i ++ j)) from if_pos hl] at h
        exact .inr (.inl ⟨i, j, rfl, rfl, hl, GoodO.here h1 h2 (.str _) h⟩)
      · rw [show addD (.str i) (.str j) = none from if_neg hl] at h
        exact h.elim
    | _ => exact h.elim
  | @lst p xs vs hq r =>
    cases rb with
    | @lst p' ys ws hq' r' =>
      by_cases hl : xs.length + ys.length ≤ sizeLine
      · rw [show addD (.lst xs) (.lst ys) = some (.lst (xs ++ ys)) from if_pos hl] at h
        refine .inr (.inr (.inl ⟨p, p', vs, ws, rfl, rfl, h1 _ _ hq, h1 _ _ hq', by rw [← r.length, ← r'.length]; exact hl, fun q hn => ?_⟩))
        exact GoodO.new h1 h2 hn (.lst upd_same ((r.append r').mono (Ext.new (fa := fa) h1 hn).ff)) h
      · rw [show addD (.lst xs) (.lst ys) = none from if_neg hl] at h
        exact h.elim
    | _ => exact h.elim
  | @tup p xs vs hq r =>
    cases rb with
    | @tup p' ys ws hq' r' =>
      by_cases hl : xs.length + ys.length ≤ sizeLine
      · rw [show addD (.tup xs) (.tup ys) = some (.tup (xs ++ ys)) from if_pos hl] at h
        refine .inr (.inr (.inr ⟨p, p', vs, ws, rfl, rfl, same_seqT h1 hq, same_seqT h1 hq', by rw [← r.length, ← r'.length]; exact hl, fun e => ?_, fun _ e => ?_, fun _ _ q hn => ?_⟩))
        · subst e
          cases r
          exact GoodO.here h1 h2 (.tup hq' r') h
        · subst e
          cases r'
          rw [List.append_nil] at h
          exact GoodO.here h1 h2 (.tup hq r) h
        · exact GoodO.new h1 h2 hn (.tup (SqT.of upd_same) ((r.append r').mono (Ext.new (fa := fa) h1 hn).ff)) h
      · rw [show addD (.tup xs) (.tup ys) = none from if_neg hl] at h
        exact h.elim
    | _ => exact h.elim
  | _ => exact h.elim
theorem ok_sub : OpOk X fa (rI0 fun i j => .int (i - j)) subD := by
  intro F H s x y a b Q h1 h2 ra rb h
  cases ra with
  | int i =>
    cases rb with
    | int j => exact ⟨i, j, rfl, rfl, GoodO.here h1 h2 (.int _) h⟩
    | _ => exact h.elim
  | _ => exact h.elim
theorem opr_mul : OpR X (binaryOp .Mult) (fun x y H Q => rI CMul (fun i j => .int (i * j)) x y H Q ∨ rRep x y H Q) := OpR.or op_mul op_rep
theorem RepL.rep {K : PySem.W.Frag} {F : Hp} {ds : List D} {vs : List V} (h : RepL K fa F ds vs) : ∀ k : Nat, RepL K fa F (List.replicate k ds).flatten (List.replicate k vs).flatten
  | 0 => .nil
  | k + 1 => by
    rw [List.replicate_succ, List.replicate_succ, List.flatten_cons, List.flatten_cons]
    exact h.append (RepL.rep h k)
theorem ok_mul : OpOk X fa (fun x y H Q => rI CMul (fun i j => .int (i * j)) x y H Q ∨ rRep x y H Q) mulD := by
  intro F H s x y a b Q h1 h2 ra rb h
  cases ra with
  | int i =>
    cases rb with
    | int j =>
      by_cases hl : (-(2 ^ 64) < i ∧ i < 2 ^ 64) ∨ (-(2 ^ 64) < j ∧ j < 2 ^ 64)
      · rw [show mulD (.int i) (.int j) = some (.int (i * j)) from if_pos hl] at h
        exact .inl ⟨i, j, rfl, rfl, hl, GoodO.here h1 h2 (.int _) h⟩
      · rw [show mulD (.int i) (.int j) = none from if_neg hl] at h
        exact h.elim
    | _ => exact h.elim
  | @lst p xs vs hq r =>
    cases rb with
    | int k =>
      by_cases hl : -(2 ^ 63) ≤ k ∧ k < 2 ^ 63 ∧ xs.length * k.toNat ≤ sizeLine
      · rw [show mulD (.lst xs) (.int k) = some (.lst (List.replicate k.toNat xs).flatten) from if_pos hl] at h
        refine .inr ⟨p, k, vs, rfl, rfl, h1 _ _ hq, hl.1, hl.2.1, by rw [← r.length]; exact hl.2.2, fun q hn => ?_⟩
        exact GoodO.new h1 h2 hn (.lst upd_same ((r.rep k.toNat).mono (Ext.new (fa := fa) h1 hn).ff)) h
      · rw [show mulD (.lst xs) (.int k) = none from if_neg hl] at h
        exact h.elim
    | _ => exact h.elim
  | _ => exact h.elim
theorem ok_mod : OpOk X fa (rI (fun _ j => 0 < j) fun i j => .int (i % j)) modD := by
  intro F H s x y a b Q h1 h2 ra rb h
  cases ra with
  | int i =>
    cases rb with
    | int j =>
      by_cases hl : 0 < j
      · rw [show modD (.int i) (.int j) = some (.int (i % j)) from if_pos hl] at h
        exact ⟨i, j, rfl, rfl, hl, GoodO.here h1 h2 (.int _) h⟩
      · rw [show modD (.int i) (.int j) = none from if_neg hl] at h
        exact h.elim
    | _ => exact h.elim
  | _ => exact h.elim
theorem ok_fdiv : OpOk X fa (rI CDiv fun i j => .int (i / j)) fdivD := by
  intro F H s x y a b Q h1 h2 ra rb h
  cases ra with
  | int i =>
    cases rb with
    | int j =>
      by_cases hl : 0 < j ∧ j < 1073741824
      · rw [show fdivD (.int i) (.int j) = some (.int (i / j)) from if_pos hl] at h
        exact ⟨i, j, rfl, rfl, hl, GoodO.here h1 h2 (.int _) h⟩
      · rw [show fdivD (.int i) (.int j) = none from if_neg hl] at h
        exact h.elim
    | _ => exact h.elim
  | _ => exact h.elim
theorem ok_pow : OpOk X fa (rI CPow fun i j => .int (i ^ j.toNat)) powD := by
  intro F H s x y a b Q h1 h2 ra rb h
  cases ra with
  | int i =>
    cases rb with
    | int j =>
      by_cases hl : 0 ≤ j ∧ j ≤ 1000000 ∧ i.natAbs < 2 ^ 64
      · rw [show powD (.int i) (.int j) = some (.int (i ^ j.toNat)) from if_pos hl] at h
        exact ⟨i, j, rfl, rfl, hl, GoodO.here h1 h2 (.int _) h⟩
      · rw [show powD (.int i) (.int j) = none from if_neg hl] at h
        exact h.elim
    | _ => exact h.elim
  | _ => exact h.elim
theorem ok_neg : UnOk X fa (rU fun i => .int (-i)) negD := by
  intro F H s x a Q h1 h2 ra h
  cases ra with
  | int i => exact ⟨i, rfl, GoodO.here h1 h2 (.int _) h⟩
  | _ => exact h.elim

/-! ### comparisons -/
def ltD : D → D → Option D
  | .int a, .int b => some (.bl (decide (a < b)))
  | _, _ => none
def leD : D → D → Option D
  | .int a, .int b => some (.bl (decide (a ≤ b)))
  | _, _ => none
def gtD : D → D → Option D
  | .int a, .int b => some (.bl (decide (b < a)))
  | _, _ => none
def geD : D → D → Option D
  | .int a, .int b => some (.bl (decide (b ≤ a)))
  | _, _ => none
theorem ok_intb {g : Int → Int → Bool} {gD : D → D → Option D} (h0 : ∀ i j, gD (.int i) (.int j) = some (.bl (g i j))) (h1 : ∀ a b, gD a b ≠ none → ∃ i j, a = .int i ∧ b = .int j) : OpOk X fa (rI0 fun i j => .bl (g i j)) gD := by
  intro F H s x y a b Q e1 e2 ra rb h
  have hn : gD a b ≠ none := fun e => by rw [e] at h; exact h
  obtain ⟨i, j, rfl, rfl⟩ := h1 a b hn
  cases ra
  cases rb
  rw [h0] at h
  exact ⟨i, j, rfl, rfl, GoodO.here e1 e2 (.bl _) h⟩
theorem ok_lt : OpOk X fa (rI0 fun i j => .bl (decide (i < j))) ltD := ok_intb (fun _ _ => rfl) fun a b h => by
  cases a <;> cases b <;> first | exact ⟨_, _, rfl, rfl⟩ | exact absurd rfl h
theorem ok_le : OpOk X fa (rI0 fun i j => .bl (decide (i ≤ j))) leD := ok_intb (fun _ _ => rfl) fun a b h => by
  cases a <;> cases b <;> first | exact ⟨_, _, rfl, rfl⟩ | exact absurd rfl h
theorem ok_gt : OpOk X fa (rI0 fun i j => .bl (decide (j < i))) gtD := ok_intb (fun _ _ => rfl) fun a b h => by
  cases a <;> cases b <;> first | exact ⟨_, _, rfl, rfl⟩ | exact absurd rfl h
theorem ok_ge : OpOk X fa (rI0 fun i j => .bl (decide (j ≤ i))) geD := ok_intb (fun _ _ => rfl) fun a b h => by
  cases a <;> cases b <;> first | exact ⟨_, _, rfl, rfl⟩ | exact absurd rfl h

/-- a flat value -/
def scalV : D → Option V
  | .non => some .non
  | .bl b => some (.bl b)
  | .int i => some (.int i)
  | .str x => some (.str x)
  | _ => none
theorem scalV_rep {K : PySem.W.Frag} {F : Hp} {d : D} {v w : V} (h : scalV d = some w) (r : Rep K fa F d v) : v = w := by
  cases r <;> first | (cases h; rfl) | cases h
mutual
/-- data for the library's == -/
def pyD : D → Option PyData
  | .non => some .none
  | .bl b => some (.bool b)
  | .int i => some (.int i)
  | .str x => some (.str x)
  | .tup xs => (pyL xs).map .tuple
  | .lst xs => (pyL xs).map .list
  | .dic _ => none
  | .feed => none
  | .opq _ => none
  | .scr _ => none
def pyL : List D → Option (List PyData)
  | [] => some []
  | x :: xs => (pyD x).bind fun y => (pyL xs).map fun ys => y :: ys
end
mutual
theorem dp_of' {K : PySem.W.Frag} {fa : Option FA} {F H : Hp} (h1 : Same F H) : ∀ {d : D} {v : V}, Rep K fa F d v → ∀ p : PyData, pyD d = some p → Dp K H v p
  | _, _, .non, _, e => by cases e; exact .non
  | _, _, .bl b, _, e => by cases e; exact .bl b
  | _, _, .int i, _, e => by cases e; exact .int i
  | _, _, .str x, _, e => by cases e; exact .str x
  | _, _, .feed φ _, _, e => by cases e
  | _, _, .opq v, _, e => by cases e
  | _, _, .scr _, _, e => by cases e
  | _, _, .dic _ _, _, e => by cases e
  | _, _, .tup (xs := xs) h r, p, e => by
    rw [pyD] at e
    cases q : pyL xs with
    | none => rw [q] at e; cases e
    | some ps => rw [q] at e; cases e; exact .tup (same_seqT h1 h) (dps_of' h1 r ps q)
  | _, _, .lst (xs := xs) h r, p, e => by
    rw [pyD] at e
    cases q : pyL xs with
    | none => rw [q] at e; cases e
    | some ps => rw [q] at e; cases e; exact .lst (SqL.of (h1 _ _ h)) (dps_of' h1 r ps q)
theorem dps_of' {K : PySem.W.Frag} {fa : Option FA} {F H : Hp} (h1 : Same F H) : ∀ {ds : List D} {vs : List V}, RepL K fa F ds vs → ∀ ps : List PyData, pyL ds = some ps → DpAll K H vs ps
  | _, _, .nil, _, e => by rw [pyL] at e; cases e; exact .nil
  | _, _, .cons (d := d) (ds := ds) r t, ps, e => by
    rw [pyL] at e
    cases q : pyD d with
    | none => rw [q] at e; cases e
    | some y =>
      rw [q] at e
      cases q2 : pyL ds with
      | none => rw [q2] at e; cases e
      | some ys => rw [q2] at e; cases e; exact .cons (dp_of' h1 r y q) (dps_of' h1 t ys q2)
end
theorem dp_of {K : PySem.W.Frag} {F H : Hp} (h1 : Same F H) {d : D} {v : V} {p : PyData} (e : pyD d = some p) (r : Rep K fa F d v) : Dp K H v p := dp_of' h1 r p e
/-- a == b -/
def eqB (a b : D) : Option Bool :=
  match scalV a, scalV b with
  | some x, some y => if scal x y = true then some (decide (x = y)) else eqP a b
  | _, _ => eqP a b
where eqP (a b : D) : Option Bool := match pyD a, pyD b with
  | some p, some q => if SeqAt.shaped p = true ∧ SeqAt.shaped q = true then some (PyData.eqv p q) else none
  | _, _ => none
def eqD (a b : D) : Option D := (eqB a b).map .bl
def neD (a b : D) : Option D := (eqB a b).map fun k => .bl (!k)
theorem opr_eq (hu : X.A.units + 64 < cLine) : OpR X (compareOp .Eq) (fun x y H Q => rEq x y H Q ∨ rEqD X.K x y H Q) := OpR.or op_eq (op_eqD hu)
theorem opr_ne (hu : X.A.units + 64 < cLine) : OpR X (compareOp .NotEq) (fun x y H Q => rNe x y H Q ∨ rNeD X.K x y H Q) := OpR.or op_ne (op_neD hu)
theorem eqB_cases {F H : Hp} {x y : V} {a b : D} {k : Bool} (h1 : Same F H) (ra : Rep X.K fa F a x) (rb : Rep X.K fa F b y) (h : eqB a b = some k) :
    (scal x y = true ∧ k = decide (x = y)) ∨ ∃ d e, Dp X.K H x d ∧ Dp X.K H y e ∧ SeqAt.shaped d = true ∧ SeqAt.shaped e = true ∧ k = PyData.eqv d e := by
  have part : eqB.eqP a b = some k → ∃ d e, Dp X.K H x d ∧ Dp X.K H y e ∧ SeqAt.shaped d = true ∧ SeqAt.shaped e = true ∧ k = PyData.eqv d e := fun h => by
    unfold eqB.eqP at h
    cases q : pyD a with
    | none => rw [q] at h; cases h
    | some p =>
      cases q2 : pyD b with
      | none => rw [q, q2] at h; cases h
      | some p2 =>
        rw [q, q2] at h
        dsimp only at h
        by_cases hs : SeqAt.shaped p = true ∧ SeqAt.shaped p2 = true
        · rw [if_pos hs] at h
          cases h
          exact ⟨p, p2, dp_of h1 q ra, dp_of h1 q2 rb, hs.1, hs.2, rfl⟩
        · rw [if_neg hs] at h
          cases h
  unfold eqB at h
  cases q : scalV a with
  | none => rw [q] at h; exact .inr (part h)
  | some u =>
    cases q2 : scalV b with
    | none => rw [q, q2] at h; exact .inr (part h)
    | some w =>
      rw [q, q2] at h
      dsimp only at h
      obtain rfl := scalV_rep q ra
      obtain rfl := scalV_rep q2 rb
      by_cases hs : scal x y = true
      · rw [if_pos hs] at h
        cases h
        exact .inl ⟨hs, rfl⟩
      · rw [if_neg hs] at h
        exact .inr (part h)
theorem ok_eq : OpOk X fa (fun x y H Q => rEq x y H Q ∨ rEqD X.K x y H Q) eqD := by
  intro F H s x y a b Q h1 h2 ra rb h
  unfold eqD at h
  cases q : eqB a b with
  | none => rw [q] at h; exact h.elim
  | some k =>
    rw [q] at h
    have z : Q (.bl k) H := GoodO.here h1 h2 (.bl k) h
    rcases eqB_cases h1 ra rb q with ⟨e1, e2⟩ | ⟨d, e, e1, e2, e3, e4, e5⟩
    · exact .inl ⟨e1, by rw [← e2]; exact z⟩
    · exact .inr ⟨d, e, e1, e2, e3, e4, by rw [← e5]; exact z⟩
theorem ok_ne : OpOk X fa (fun x y H Q => rNe x y H Q ∨ rNeD X.K x y H Q) neD := by
  intro F H s x y a b Q h1 h2 ra rb h
  unfold neD at h
  cases q : eqB a b with
  | none => rw [q] at h; exact h.elim
  | some k =>
    rw [q] at h
    have z : Q (.bl (!k)) H := GoodO.here h1 h2 (.bl _) h
    rcases eqB_cases h1 ra rb q with ⟨e1, e2⟩ | ⟨d, e, e1, e2, e3, e4, e5⟩
    · exact .inl ⟨e1, by rw [← e2]; exact z⟩
    · exact .inr ⟨d, e, e1, e2, e3, e4, by rw [← e5]; exact z⟩
def isNon : D → Bool
  | .non => true
  | _ => false
/-- is None, is not None (of data: nothing opaque) -/
def isD : D → D → Option D
  | .opq _, _ => none
  | a, .non => some (.bl (isNon a))
  | _, _ => none
def isnD : D → D → Option D
  | .opq _, _ => none
  | a, .non => some (.bl (!isNon a))
  | _, _ => none
theorem isNon_rep {K : PySem.W.Frag} {F : Hp} {d : D} {v : V} (ho : ∀ w, d ≠ .opq w) (r : Rep K fa F d v) : decide (v = .non) = isNon d := by
  cases r <;> first | rfl | exact absurd rfl (ho _)
theorem ok_is : OpOk X fa (fun x y H Q => y = .non ∧ Q (.bl (decide (x = .non))) H) isD := by
  intro F H s x y a b Q h1 h2 ra rb h
  have ho : ∀ w, a ≠ .opq w := fun w e => by subst e; exact h
  cases rb with
  | non =>
    have e : isD a .non = some (.bl (isNon a)) := by cases a <;> first | rfl | exact absurd rfl (ho _)
    rw [e, ← isNon_rep ho ra] at h
    exact ⟨rfl, GoodO.here h1 h2 (.bl _) h⟩
  | _ => cases a <;> exact h.elim
theorem ok_isn : OpOk X fa (fun x y H Q => y = .non ∧ Q (.bl (!decide (x = .non))) H) isnD := by
  intro F H s x y a b Q h1 h2 ra rb h
  have ho : ∀ w, a ≠ .opq w := fun w e => by subst e; exact h
  cases rb with
  | non =>
    have e : isnD a .non = some (.bl (!isNon a)) := by cases a <;> first | rfl | exact absurd rfl (ho _)
    rw [e, ← isNon_rep ho ra] at h
    exact ⟨rfl, GoodO.here h1 h2 (.bl _) h⟩
  | _ => cases a <;> exact h.elim
end
end DL

set_option Elab.async false
set_option linter.all false
set_option maxRecDepth 100000
set_option maxHeartbeats 2000000
/-! The data layer: membership, items, slices, built-in functions. -/
namespace DL
open PySem PySem.Spec PyProof.Rows L2

theorem dget_rd {H : Hp} {a : Addr} {kvs : List (Key × V)} {k : Key} (e : Rd H a (.dK kvs)) : DGet H a (kV k) (valV kvs k) := .inl ⟨kvs, k, e, rfl, rfl⟩
theorem call_lenR {X : Cx} : CallR X (.builtin "len") (fun xs H Q => ∃ a kvs, xs = [V.ref a] ∧ Rd H a (.dK kvs) ∧ Q (.int kvs.length) H) := by
  intro pins s σ H xs us Q I r h
  obtain ⟨a, kvs, rfl, ha, q⟩ := h
  obtain ⟨u, rfl, ru⟩ := vals1 r
  cases ru
  exact d_len I ha fun t s' I' => ⟨.int kvs.length, H, I', ⟨t, rfl⟩, q⟩
def lookD (kvs : List (Key × D)) (k : Key) : Option D := (kvs.find? fun kv => decide (kv.1 = k)).map (·.2)
def flatL : List D → Option (List V)
  | [] => some []
  | x :: xs => (scalV x).bind fun v => (flatL xs).map fun vs => v :: vs
section
variable {K : PySem.W.Frag} {fa : Option FA} {F H : Hp}
theorem lookD_rep {k : Key} : ∀ {xs : List (Key × D)} {vs : List (Key × V)}, RepK K fa F xs vs → (∀ d, lookD xs k = some d → ∃ v, valV vs k = some v ∧ Rep K fa F d v) ∧ (lookD xs k = none → valV vs k = none)
  | _, _, .nil => ⟨fun d h => by simp [lookD] at h, fun _ => rfl⟩
  | (k', d') :: xs, (_, v') :: vs, .cons r t => by
    obtain ⟨i1, i2⟩ := lookD_rep (k := k) t
    by_cases e : k' = k
    · refine ⟨fun d h => ?_, fun h => ?_⟩
      · have z : lookD ((k', d') :: xs) k = some d' := by simp [lookD, e]
        rw [z] at h
        cases h
        exact ⟨v', by rw [valV_pos e], r⟩
      · have z : lookD ((k', d') :: xs) k = some d' := by simp [lookD, e]
        rw [z] at h
        cases h
    · have z : lookD ((k', d') :: xs) k = lookD xs k := by simp [lookD, e]
      rw [z]
      rw [valV_neg (p := (k', v')) e]
      exact ⟨i1, i2⟩
theorem flatL_rep : ∀ {xs : List D} {vs ws : List V}, flatL xs = some ws → RepL K fa F xs vs → vs = ws
  | _, _, _, h, .nil => by cases h; rfl
  | x :: xs, v :: vs, ws, h, .cons r t => by
    rw [flatL] at h
    cases q : scalV x with
    | none => rw [q] at h; cases h
    | some u =>
      rw [q] at h
      cases q2 : flatL xs with
      | none => rw [q2] at h; cases h
      | some us =>
        rw [q2] at h
        cases h
        rw [scalV_rep q r, flatL_rep q2 t]
theorem scalV_flat {d : D} {v : V} (h : scalV d = some v) : flatV v = true := by
  cases d <;> first | (cases h; rfl) | cases h
theorem flatL_flat : ∀ {xs : List D} {vs : List V}, flatL xs = some vs → vs.all flatV = true
  | [], _, h => by cases h; rfl
  | x :: xs, vs, h => by
    rw [flatL] at h
    cases q : scalV x with
    | none => rw [q] at h; cases h
    | some u =>
      rw [q] at h
      cases q2 : flatL xs with
      | none => rw [q2] at h; cases h
      | some us =>
        rw [q2] at h
        cases h
        rw [List.all_cons, scalV_flat q, flatL_flat q2]
        rfl
end
/-- x in y -/
def inB (x y : D) : Option Bool :=
  match x, y with
  | .str a, .str b => some (!(Builtin.Str.occurrences b a 0 b.length 1).isEmpty)
  | a, .dic kvs => (keyD a).map fun k => (lookD kvs k).isSome
  | a, .tup xs => (scalV a).bind fun v => (flatL xs).map fun vs => inV v vs
  | a, .lst xs => match scalV a, flatL xs with
    | some v, some vs => some (inV v vs)
    | _, _ => (pyD a).bind fun p => (pyL xs).bind fun ps => if SeqAt.shaped p = true ∧ SeqAt.shaped (.list ps) = true then some (ps.any fun z => PyData.eqv z p) else none
  | _, _ => none
def inD (x y : D) : Option D := (inB x y).map .bl
def ninD (x y : D) : Option D := (inB x y).map fun k => .bl (!k)
section
variable {X : Cx} {fa : Option FA} {W : L2.St → XK} {a b c e o : Expr} {es rest : List Expr} {pos p apos cpos : Pos} {f1 f2 f3 : Env' → M D} {fl : Env' → M (List D)}
def rInDk : R2 := fun x y H Q => ∃ a ov, y = .ref a ∧ DGet H a x ov ∧ Q (.bl ov.isSome) H
def rNInDk : R2 := fun x y H Q => ∃ a ov, y = .ref a ∧ DGet H a x ov ∧ Q (.bl (!ov.isSome)) H
theorem op_in_dk (hu : X.A.units + 1 < cLine) : OpR X (compareOp .In) rInDk := by
  intro pins s σ H x y v u Q I rx ry h
  obtain ⟨a, ov, rfl, g, q⟩ := h
  obtain rfl : u = Value.ref a := ry
  exact d_in hu I g rx fun s3 I3 => ⟨.bl ov.isSome, H, I3, rfl, q⟩
theorem op_nin_dk (hu : X.A.units + 1 < cLine) : OpR X (compareOp .NotIn) rNInDk := by
  intro pins s σ H x y v u Q I rx ry h
  obtain ⟨a, ov, rfl, g, q⟩ := h
  obtain rfl : u = Value.ref a := ry
  exact d_notIn hu I g rx fun s3 I3 => ⟨.bl (!ov.isSome), H, I3, rfl, q⟩
def rInAll (K : PySem.W.Frag) : R2 := fun x y H Q => (∃ i j, x = .str i ∧ y = .str j ∧ Q (.bl (!(Builtin.Str.occurrences j i 0 j.length 1).isEmpty)) H) ∨ (rInDk x y H Q ∨ (rIn K false x y H Q ∨ rInD K x y H Q))
def rNInAll (K : PySem.W.Frag) : R2 := fun x y H Q => (∃ i j, x = .str i ∧ y = .str j ∧ Q (.bl (!(!(Builtin.Str.occurrences j i 0 j.length 1).isEmpty))) H) ∨ (rNInDk x y H Q ∨ (rIn K true x y H Q ∨ rNotInD K x y H Q))
theorem opr_in (hu : X.A.units + 65 < cLine) : OpR X (compareOp .In) (rInAll X.K) := OpR.or op_in_str (OpR.or (op_in_dk (by omega)) (OpR.or op_in_seq (op_inD hu)))
theorem opr_nin (hu : X.A.units + 65 < cLine) : OpR X (compareOp .NotIn) (rNInAll X.K) := OpR.or op_notin_str (OpR.or (op_nin_dk (by omega)) (OpR.or op_notIn_seq (op_notInD hu)))
theorem inB_cases {F H : Hp} {x y : V} {a b : D} {k : Bool} (h1 : Same F H) (ra : Rep X.K fa F a x) (rb : Rep X.K fa F b y) (h : inB a b = some k) :
    (∃ i j, x = .str i ∧ y = .str j ∧ k = !(Builtin.Str.occurrences j i 0 j.length 1).isEmpty) ∨ (∃ p ov, y = .ref p ∧ DGet H p x ov ∧ k = ov.isSome) ∨ (∃ p xs, y = .ref p ∧ (SqL X.K H p xs ∨ SqT X.K H p xs) ∧ flatV x = true ∧ xs.all flatV = true ∧ k = inV x xs) ∨
      ∃ d ds, Dp X.K H x d ∧ Dp X.K H y (.list ds) ∧ SeqAt.shaped d = true ∧ SeqAt.shaped (.list ds) = true ∧ k = ds.any fun z => PyData.eqv z d := by
  cases rb with
  | str j =>
    cases ra with
    | str i => cases h; exact .inl ⟨i, j, rfl, rfl, rfl⟩
    | _ => cases h
  | @dic p kvs vs hq r =>
    have h' : (keyD a).map (fun k => (lookD kvs k).isSome) = some k := by cases a <;> exact h
    cases q : keyD a with
    | none => rw [q] at h'; cases h'
    | some kk =>
      rw [q] at h'
      have hk := Option.some.inj h'
      obtain rfl := key_rep q ra
      refine .inr (.inl ⟨p, _, rfl, dget_rd (k := kk) (same_rd h1 hq), ?_⟩)
      obtain ⟨i1, i2⟩ := lookD_rep (k := kk) r
      rw [← hk]
      show (lookD kvs kk).isSome = (valV vs kk).isSome
      cases q2 : lookD kvs kk with
      | none => rw [i2 q2]; rfl
      | some d =>
        obtain ⟨v, hv, _⟩ := i1 d q2
        rw [hv]
        rfl
  | @tup p xs vs hq r =>
    have h' : ((scalV a).bind fun v => (flatL xs).map fun vs => inV v vs) = some k := by cases a <;> exact h
    cases q : scalV a with
    | none => rw [q] at h'; cases h'
    | some w =>
      rw [q] at h'
      change ((flatL xs).map fun vs => inV w vs) = some k at h'
      cases q2 : flatL xs with
      | none => rw [q2] at h'; cases h'
      | some ws =>
        rw [q2] at h'
        have hk := Option.some.inj h'
        obtain rfl := scalV_rep q ra
        obtain rfl := flatL_rep q2 r
        exact .inr (.inr (.inl ⟨p, _, rfl, .inr (same_seqT h1 hq), scalV_flat q, flatL_flat q2, hk.symm⟩))
  | @lst p xs vs hq r =>
    have part : ((pyD a).bind fun p => (pyL xs).bind fun ps => if SeqAt.shaped p = true ∧ SeqAt.shaped (.list ps) = true then some (ps.any fun z => PyData.eqv z p) else none) = some k → ∃ d ds, Dp X.K H x d ∧ Dp X.K H (.ref p) (.list ds) ∧ SeqAt.shaped d = true ∧ SeqAt.shaped (.list ds) = true ∧ k = ds.any fun z => PyData.eqv z d := fun h => by
      cases q : pyD a with
      | none => rw [q] at h; cases h
      | some d =>
        rw [q] at h
        change ((pyL xs).bind fun ps => if SeqAt.shaped d = true ∧ SeqAt.shaped (.list ps) = true then some (ps.any fun z => PyData.eqv z d) else none) = some k at h
        cases q2 : pyL xs with
        | none => rw [q2] at h; cases h
        | some ds =>
          rw [q2] at h
          change (if SeqAt.shaped d = true ∧ SeqAt.shaped (.list ds) = true then some (ds.any fun z => PyData.eqv z d) else none) = some k at h
          by_cases hs : SeqAt.shaped d = true ∧ SeqAt.shaped (.list ds) = true
          · rw [if_pos hs] at h
            exact ⟨d, ds, dp_of h1 q ra, .lst (SqL.of (h1 _ _ hq)) (dps_of' h1 r _ q2), hs.1, hs.2, (Option.some.inj h).symm⟩
          · rw [if_neg hs] at h
            cases h
    have h' : (match scalV a, flatL xs with
      | some v, some vs => some (inV v vs)
      | _, _ => (pyD a).bind fun p => (pyL xs).bind fun ps => if SeqAt.shaped p = true ∧ SeqAt.shaped (.list ps) = true then some (ps.any fun z => PyData.eqv z p) else none) = some k := by cases a <;> exact h
    cases q : scalV a with
    | none => rw [q] at h'; exact .inr (.inr (.inr (part h')))
    | some w =>
      cases q2 : flatL xs with
      | none => rw [q, q2] at h'; exact .inr (.inr (.inr (part h')))
      | some ws =>
        rw [q, q2] at h'
        have hk := Option.some.inj h'
        obtain rfl := scalV_rep q ra
        obtain rfl := flatL_rep q2 r
        exact .inr (.inr (.inl ⟨p, _, rfl, .inl (SqL.of (h1 _ _ hq)), scalV_flat q, flatL_flat q2, hk.symm⟩))
  | _ => cases a <;> cases h
theorem ok_in : OpOk X fa (rInAll X.K) inD := by
  intro F H s x y a b Q h1 h2 ra rb h
  unfold inD at h
  cases q : inB a b with
  | none => rw [q] at h; exact h.elim
  | some k =>
    rw [q] at h
    have z : Q (.bl k) H := GoodO.here h1 h2 (.bl k) h
    rcases inB_cases h1 ra rb q with ⟨i, j, e1, e2, e3⟩ | ⟨p, ov, e1, e2, e3⟩ | ⟨p, xs, e1, e2, e3, e4, e5⟩ | ⟨d, ds, e1, e2, e3, e4, e5⟩
    · exact .inl ⟨i, j, e1, e2, by rw [← e3]; exact z⟩
    · exact .inr (.inl ⟨p, ov, e1, e2, by rw [← e3]; exact z⟩)
    · exact .inr (.inr (.inl ⟨p, xs, e1, e2, e3, e4, by rw [if_neg Bool.false_ne_true, ← e5]; exact z⟩))
    · exact .inr (.inr (.inr ⟨d, ds, e1, e2, e3, e4, by rw [← e5]; exact z⟩))
theorem ok_nin : OpOk X fa (rNInAll X.K) ninD := by
  intro F H s x y a b Q h1 h2 ra rb h
  unfold ninD at h
  cases q : inB a b with
  | none => rw [q] at h; exact h.elim
  | some k =>
    rw [q] at h
    have z : Q (.bl (!k)) H := GoodO.here h1 h2 (.bl _) h
    rcases inB_cases h1 ra rb q with ⟨i, j, e1, e2, e3⟩ | ⟨p, ov, e1, e2, e3⟩ | ⟨p, xs, e1, e2, e3, e4, e5⟩ | ⟨d, ds, e1, e2, e3, e4, e5⟩
    · exact .inl ⟨i, j, e1, e2, by rw [← e3]; exact z⟩
    · exact .inr (.inl ⟨p, ov, e1, e2, by rw [← e3]; exact z⟩)
    · exact .inr (.inr (.inl ⟨p, xs, e1, e2, e3, e4, by rw [if_pos rfl, ← e5]; exact z⟩))
    · exact .inr (.inr (.inr ⟨d, ds, e1, e2, e3, e4, by rw [← e5]; exact z⟩))

/-! ### items, slices -/
def ixD : D → D → Option D
  | .lst xs, .int i => atI xs i
  | .tup xs, .int i => atI xs i
  | .str z, .int i => if z.length ≤ sizeLine then (atI z.cps.toList i).map fun c => .str ⟨#[c]⟩ else none
  | .dic kvs, k => (keyD k).bind fun k => lookD kvs k
  | _, _ => none
def rIxD : R2 := fun x y H Q => ∃ a v, x = .ref a ∧ DGet H a y (some v) ∧ Q v H
theorem ix_dk (hu : X.A.units + 1 < cLine) : IxR X rIxD := by
  intro value slice pins s σ H x y v u Q I rx ry h hs
  obtain ⟨a, w, rfl, g, q⟩ := h
  obtain rfl : v = Value.ref a := rx
  exact PyProof.Rows.tail_any (dict_typeIs I g) PySem.F.slot_dict_getitem.lookup (d_getItem hu I g ry fun w' s3 I3 rw' => ⟨w, H, I3, rw', q⟩) hs
theorem RepL.atI {K : PySem.W.Frag} {F : Hp} {ds : List D} {vs : List V} {i : Int} {d : D} (r : RepL K fa F ds vs) (h : atI ds i = some d) : ∃ v, L2.atI vs i = some v ∧ Rep K fa F d v := by
  unfold L2.atI at h ⊢
  rw [← r.length]
  cases q : ixN ds.length i with
  | none => rw [q] at h; cases h
  | some j =>
    rw [q] at h
    exact r.get' h
theorem ok_ix : OpOk X fa (fun x y H Q => rIx X.K x y H Q ∨ rIxD x y H Q) ixD := by
  intro F H s x y a b Q h1 h2 ra rb h
  cases ra with
  | lst hq r =>
    cases rb with
    | int i =>
      change GoodO X fa F H s (atI _ i) Q at h
      cases q : atI _ i with
      | none => rw [q] at h; exact h.elim
      | some d =>
        rw [q] at h
        obtain ⟨v, hv, rv⟩ := r.atI q
        exact .inl (.inl ⟨_, _, i, v, rfl, rfl, SqL.of (h1 _ _ hq), hv, GoodO.here h1 h2 rv h⟩)
    | _ => exact h.elim
  | tup hq r =>
    cases rb with
    | int i =>
      change GoodO X fa F H s (atI _ i) Q at h
      cases q : atI _ i with
      | none => rw [q] at h; exact h.elim
      | some d =>
        rw [q] at h
        obtain ⟨v, hv, rv⟩ := r.atI q
        exact .inl (.inr (.inl ⟨_, _, i, v, rfl, rfl, same_seqT h1 hq, hv, GoodO.here h1 h2 rv h⟩))
    | _ => exact h.elim
  | str z =>
    cases rb with
    | int i =>
      change GoodO X fa F H s (if z.length ≤ sizeLine then (atI z.cps.toList i).map fun c => .str ⟨#[c]⟩ else none) Q at h
      by_cases hl : z.length ≤ sizeLine
      · rw [if_pos hl] at h
        cases q : atI z.cps.toList i with
        | none => rw [q] at h; exact h.elim
        | some c =>
          rw [q] at h
          exact .inl (.inr (.inr ⟨z, i, c, rfl, rfl, hl, q, GoodO.here h1 h2 (.str _) h⟩))
      · rw [if_neg hl] at h
        exact h.elim
    | _ => exact h.elim
  | @dic p kvs vs hq r =>
    have h' : GoodO X fa F H s ((keyD b).bind fun k => lookD kvs k) Q := by cases b <;> exact h
    cases q : keyD b with
    | none => rw [q] at h'; exact h'.elim
    | some k =>
      rw [q] at h'
      change GoodO X fa F H s (lookD kvs k) Q at h'
      cases q2 : lookD kvs k with
      | none => rw [q2] at h'; exact h'.elim
      | some d =>
        rw [q2] at h'
        obtain ⟨v, hv, rv⟩ := (lookD_rep (k := k) r).1 d q2
        obtain rfl := key_rep q rb
        refine .inr ⟨p, v, rfl, ?_, GoodO.here h1 h2 rv h'⟩
        rw [← hv]
        exact dget_rd (k := k) (same_rd h1 hq)
  | _ => cases b <;> exact h.elim
theorem ed_ix (hu : X.A.units + 1 < cLine) (ha : ED X fa W a f1) (hb : ED X fa W b f2) (hs : PlainIx b := by exact fun _ _ => rfl) : ED X fa W (.Subscript a b pos) (dOp ixD f1 f2) := by
  obtain ⟨ta, pa, ka⟩ := ha
  obtain ⟨tb, pb, kb⟩ := hb
  exact ⟨_, pe_ix (ix_seq.or (ix_dk hu)) pa pb hs, tok_op ok_ix ka kb⟩
/-- an optional part of a slice -/
def OJ (X : Cx) (fa : Option FA) (W : L2.St → XK) (e : Option Expr) (f : Env' → M (Option Int)) : Prop := ∃ t, PO X e t ∧
  ∀ (σ : L2.St) (F H : Hp) (ρ : Env') (s : FS) (Q : Option Int → Hp → Prop), Same F H → FeedOk X.K fa F H s → EnvOk X.K fa F σ ρ →
    (match f ρ s with
      | .bad => False
      | .ok i s' => ∀ F' H', Ext fa F H F' H' → FeedOk X.K fa F' H' s' → Q i H'
      | .err e s' => ∀ cls dd F' H', Ext fa F H F' H' → FeedOk X.K fa F' H' s' → RepX X.K X.mg fa F' H' e cls dd → W σ cls dd H') → t σ H Q
def intD : D → Option (Option Int)
  | .int i => some (some i)
  | _ => none
def oNo : Env' → M (Option Int) := fun _ => M.pure none
def oSome (f : Env' → M D) : Env' → M (Option Int) := fun ρ => (f ρ).bind fun x => M.lift (intD x)
theorem oj_none : OJ X fa W none oNo := ⟨_, po_none, fun σ F H ρ s Q h1 h2 h3 h => h F H (Ext.refl h1) h2⟩
theorem oj_some (ha : ED X fa W e f1) : OJ X fa W (some e) (oSome f1) := by
  obtain ⟨t, p, k⟩ := ha
  refine ⟨_, po_some p, fun σ F H ρ s Q h1 h2 h3 h => ?_⟩
  refine k σ F H ρ s _ h1 h2 h3 ?_
  unfold oSome at h
  change (match (f1 ρ s).bnd (fun x => M.lift (intD x)) with
      | .bad => False
      | .ok i s' => ∀ F' H', Ext fa F H F' H' → FeedOk X.K fa F' H' s' → Q i H'
      | .err e s' => ∀ cls dd F' H', Ext fa F H F' H' → FeedOk X.K fa F' H' s' → RepX X.K X.mg fa F' H' e cls dd → W σ cls dd H') at h
  generalize f1 ρ s = r at h
  cases r with
  | bad => exact h
  | err e s' => exact h
  | ok x s' =>
    intro v F' H' e o r
    cases r with
    | int i => exact ⟨i, rfl, h F' H' e o⟩
    | _ => exact h.elim
def slD (x : D) (lo hi : Option Int) : Option D :=
  match x with
  | .lst xs => some (.lst ((xs.drop (HT.sIx xs.length 0 lo)).take (HT.sIx xs.length xs.length hi - HT.sIx xs.length 0 lo)))
  | .tup xs => some (.tup ((xs.drop (HT.sIx xs.length 0 lo)).take (HT.sIx xs.length xs.length hi - HT.sIx xs.length 0 lo)))
  | .scr ns => some (.lst (((ns.drop (HT.sIx ns.length 0 lo)).take (HT.sIx ns.length ns.length hi - HT.sIx ns.length 0 lo)).map D.int))
  | .str z => if z.length ≤ sizeLine then some (.str (L2.cutS z lo hi)) else none
  | _ => none
def dSl (f : Env' → M D) (lo hi : Env' → M (Option Int)) : Env' → M D := fun ρ => (f ρ).bind fun x => (lo ρ).bind fun l => (hi ρ).bind fun u => M.lift (slD x l u)
theorem RepL.cut {K : PySem.W.Frag} {F : Hp} {ds : List D} {vs : List V} (r : RepL K fa F ds vs) (lo hi : Option Int) : RepL K fa F ((ds.drop (HT.sIx ds.length 0 lo)).take (HT.sIx ds.length ds.length hi - HT.sIx ds.length 0 lo)) (cutV vs lo hi) := by
  unfold cutV
  rw [← r.length]
  exact (r.drop _).take _
theorem SlR.or {r r' : V → Option Int → Option Int → Hp → VK → Prop} (h : SlR X r) (h' : SlR X r') : SlR X (fun x lo hi H Q => r x lo hi H Q ∨ r' x lo hi H Q) := L2.SlR.or h h'
theorem ed_slice {lo hi : Option Expr} {p2 : Pos} {g1 g2 : Env' → M (Option Int)} (ha : ED X fa W e f1) (hl : OJ X fa W lo g1) (hu : OJ X fa W hi g2) : ED X fa W (.Subscript e (.Slice lo hi none p2) pos) (dSl f1 g1 g2) := by
  obtain ⟨ta, pa, ka⟩ := ha
  obtain ⟨tl, pl, kl⟩ := hl
  obtain ⟨tu, pu, ku⟩ := hu
  refine ⟨_, pe_slice (SlR.or sl_list (SlR.or L2.sl_tupA sl_str)) pa pl pu, fun σ F H ρ s Q h1 h2 h3 h => ?_⟩
  refine ka.then Good.tgt h1 h2 h3 h fun x s1 v F1 H1 e1 o1 r1 v1 h' => ?_
  refine kl σ F1 H1 ρ s1 _ e1.fh o1 v1 ?_
  change Good X fa (W σ) F1 H1 ((g1 ρ s1).bnd _) Q at h'
  generalize g1 ρ s1 = r at h'
  cases r with
  | bad => exact h'
  | err e s' => exact h'
  | ok i s2 =>
    intro F2 H2 e2 o2
    refine ku σ F2 H2 ρ s2 _ e2.fh o2 (v1.mono e2.ff) ?_
    change Good X fa (W σ) F1 H1 ((g2 ρ s2).bnd _) Q at h'
    generalize g2 ρ s2 = r at h'
    cases r with
    | bad => exact h'
    | err e s' => exact fun c dd F' H' e' => h' c dd F' H' (e2.trans e')
    | ok j s3 =>
      intro F3 H3 e3 o3
      have h4 : GoodO X fa F3 H3 s3 (slD x i j) Q := Good.lift (Good.tgt.of_ext (e2.trans e3) h')
      have r3 := r1.mono (e2.ff.trans e3.ff)
      clear r1
      cases r3 with
      | lst hq r =>
        refine .inl ⟨_, _, rfl, SqL.of (e3.fh _ _ hq), fun p hp => ?_⟩
        exact GoodO.new e3.fh o3 hp (.lst upd_same ((r.cut i j).mono (Ext.new (fa := fa) e3.fh hp).ff)) h4
      | @scr p ns hq =>
        refine .inl ⟨p, _, rfl, Same.seq e3.fh hq, fun q hp => ?_⟩
        refine GoodO.new e3.fh o3 hp (.lst upd_same ?_) h4
        have z := RepL.cut (RepL.ints (K := X.K) (fa := fa) (F := upd F3 q (.lst (cutV (ns.map V.int) i j))) ns) i j
        rw [List.length_map, ← List.map_drop, ← List.map_take] at z
        exact z
      | tup hq r =>
        refine .inr (.inl ⟨_, _, rfl, same_seqT e3.fh hq, fun hw => ?_, fun hw p hp => ?_⟩)
        · refine GoodO.here e3.fh o3 (.tup hq ?_) h4
          have z := r.cut i j
          have : ∀ (vs : List V), HT.sIx vs.length 0 i = 0 ∧ HT.sIx vs.length vs.length j = vs.length → cutV vs i j = vs := fun vs q => by
            unfold cutV
            rw [q.1, q.2]
            simp
          rw [this _ hw] at z
          exact z
        · exact GoodO.new e3.fh o3 hp (.tup (SqT.of upd_same) ((r.cut i j).mono (Ext.new (fa := fa) e3.fh hp).ff)) h4
      | str z =>
        change GoodO X fa F3 H3 s3 (if z.length ≤ sizeLine then some (.str (L2.cutS z i j)) else none) Q at h4
        by_cases hl : z.length ≤ sizeLine
        · rw [if_pos hl] at h4
          exact .inr (.inr ⟨z, rfl, hl, GoodO.here e3.fh o3 (.str _) h4⟩)
        · rw [if_neg hl] at h4
          exact h4.elim
      | _ => exact h4.elim
/-- d.get(k, x) -/
def dGet2 (f g h : Env' → M D) : Env' → M D := fun ρ => (f ρ).bind fun x => match x with
  | .dic kvs => (g ρ).bind fun k => (h ρ).bind fun z => M.lift ((keyD k).map fun k => (lookD kvs k).getD z)
  | _ => M.bad
theorem ed_get2 (hu : X.A.units + 1 < cLine) (ho : ED X fa W o f1) (ha : ED X fa W a f2) (hb : ED X fa W b f3) (base : attributeBase o "get" X.env (eval o X.env) = eval o X.env := by rfl)
    (few : ((backTo cpos (starEach [a, b] X.env)).all (fun x => !x.1) && (backToKw cpos (keywordEach [] X.env)).all (fun x => x.1.isSome) && decide (([a, b] : List Expr).length + ([] : List Keyword).length + (if ([] : List Keyword).isEmpty then 0 else 1) < 30)) = true := by rfl)
    (line : (apos.endLine == cpos.line) = true := by rfl) (trees : backTo cpos (starEach [a, b] X.env) = [(false, eval a X.env), (false, eval b X.env)] := by rfl) :
    ED X fa W (.Call (.Attribute o "get" apos) [a, b] [] cpos) (dGet2 f1 f2 f3) := by
  obtain ⟨to, po, ko⟩ := ho
  obtain ⟨ta, pa, ka⟩ := ha
  obtain ⟨tb, pb, kb⟩ := hb
  refine ⟨_, pe_dget2 hu po pa pb ⟨base, few, line, trees⟩, fun σ F H ρ s Q h1 h2 h3 h => ?_⟩
  refine ko.then Good.tgt h1 h2 h3 h fun x s1 v F1 H1 e1 o1 r1 v1 h' => ?_
  cases r1 with
  | @dic p kvs vs hq r =>
    refine ⟨p, rfl, .inl ⟨vs, same_rd e1.fh hq⟩, ?_⟩
    refine ka.then Good.tgt e1.fh o1 v1 h' fun kd s2 w F2 H2 e2 o2 r2 v2 h'' => ?_
    refine kb.then Good.tgt e2.fh o2 v2 h'' fun z s3 u F3 H3 e3 o3 r3 v3 h4 => ?_
    have h5 := Good.lift h4
    cases q : keyD kd with
    | none => rw [q] at h5; exact h5.elim
    | some k =>
      rw [q] at h5
      change GoodO X fa F3 H3 s3 (some ((lookD kvs k).getD z)) Q at h5
      obtain rfl := key_rep q r2
      refine ⟨_, dget_rd (k := k) (same_rd e3.fh (same_rd e3.ff (same_rd e2.ff hq))), ?_⟩
      obtain ⟨i1, i2⟩ := lookD_rep (k := k) (r.mono (e2.ff.trans e3.ff))
      cases q2 : lookD kvs k with
      | none =>
        rw [q2] at h5
        rw [i2 q2]
        exact GoodO.here e3.fh o3 r3 h5
      | some d =>
        rw [q2] at h5
        obtain ⟨v', hv, rv⟩ := i1 d q2
        rw [hv]
        exact GoodO.here e3.fh o3 rv h5
  | _ => exact h'.elim

/-! ### built-in functions -/
def lenD : List D → Option D
  | [.str z] => if z.length ≤ sizeLine then some (.int z.length) else none
  | [.lst xs] => some (.int xs.length)
  | [.tup xs] => some (.int xs.length)
  | [.dic xs] => some (.int xs.length)
  | _ => none
theorem crl_len : CallR X (.builtin "len") (fun xs H Q => (∃ p ys, xs = [.ref p] ∧ (SqL X.K H p ys ∨ SqT X.K H p ys) ∧ Q (.int ys.length) H) ∨ ((∃ z, xs = [.str z] ∧ z.length ≤ sizeLine ∧ Q (.int z.length) H) ∨ (∃ a kvs, xs = [V.ref a] ∧ Rd H a (.dK kvs) ∧ Q (.int kvs.length) H))) := CallR.or call_len_seq (CallR.or call_len_str call_lenR)
theorem one_arg {K : PySem.W.Frag} {F : Hp} {x : D} {as : List D} {xs : List V} (e : as = [x]) (r : RepL K fa F as xs) : ∃ v, xs = [v] ∧ Rep K fa F x v := by
  subst e
  cases r with
  | cons r t => cases t; exact ⟨_, rfl, r⟩
theorem ok_len : CallOk X fa (fun xs H Q => (∃ p ys, xs = [.ref p] ∧ (SqL X.K H p ys ∨ SqT X.K H p ys) ∧ Q (.int ys.length) H) ∨ ((∃ z, xs = [.str z] ∧ z.length ≤ sizeLine ∧ Q (.int z.length) H) ∨ (∃ a kvs, xs = [V.ref a] ∧ Rd H a (.dK kvs) ∧ Q (.int kvs.length) H))) lenD := by
  intro F H s xs as Q h1 h2 r h
  cases r with
  | nil => exact h.elim
  | cons r t =>
    cases t with
    | cons _ _ => cases r <;> exact h.elim
    | nil =>
      cases r with
      | lst hq r =>
        refine .inl ⟨_, _, rfl, .inl (SqL.of (h1 _ _ hq)), ?_⟩
        rw [← r.length]
        exact GoodO.here h1 h2 (.int _) h
      | tup hq r =>
        refine .inl ⟨_, _, rfl, .inr (same_seqT h1 hq), ?_⟩
        rw [← r.length]
        exact GoodO.here h1 h2 (.int _) h
      | dic hq r =>
        refine .inr (.inr ⟨_, _, rfl, same_rd h1 hq, ?_⟩)
        rw [← r.length]
        exact GoodO.here h1 h2 (.int _) h
      | str z =>
        by_cases hl : z.length ≤ sizeLine
        · rw [show lenD [.str z] = some (.int z.length) from if_pos hl] at h
          exact .inr (.inl ⟨z, rfl, hl, GoodO.here h1 h2 (.int _) h⟩)
        · rw [show lenD [.str z] = none from if_neg hl] at h
          exact h.elim
      | _ => exact h.elim
def listD : List D → Option D
  | [.lst xs] => some (.lst xs)
  | [.tup xs] => some (.lst xs)
  | _ => none
theorem ok_list : CallOk X fa (fun xs H Q => ∃ p ys, xs = [.ref p] ∧ (SqL X.K H p ys ∨ SqT X.K H p ys) ∧ ∀ l, H l = none → Q (.ref l) (upd H l (.lst ys))) listD := by
  intro F H s xs as Q h1 h2 r h
  cases r with
  | nil => exact h.elim
  | cons r t =>
    cases t with
    | cons _ _ => cases r <;> exact h.elim
    | nil =>
      cases r with
      | lst hq r => exact ⟨_, _, rfl, .inl (SqL.of (h1 _ _ hq)), fun p hp => GoodO.new h1 h2 hp (.lst upd_same (r.mono (Ext.new (fa := fa) h1 hp).ff)) h⟩
      | tup hq r => exact ⟨_, _, rfl, .inr (same_seqT h1 hq), fun p hp => GoodO.new h1 h2 hp (.lst upd_same (r.mono (Ext.new (fa := fa) h1 hp).ff)) h⟩
      | _ => exact h.elim
def tupleD : List D → Option D
  | [.lst xs] => some (.tup xs)
  | [.tup xs] => some (.tup xs)
  | _ => none
theorem ok_tuple : CallOk X fa (fun xs H Q => ∃ p ys, xs = [.ref p] ∧ ((SqL X.K H p ys ∧ ∀ l, H l = none → Q (.ref l) (upd H l (.tup ys))) ∨ (SqT X.K H p ys ∧ Q (.ref p) H))) tupleD := by
  intro F H s xs as Q h1 h2 r h
  cases r with
  | nil => exact h.elim
  | cons r t =>
    cases t with
    | cons _ _ => cases r <;> exact h.elim
    | nil =>
      cases r with
      | lst hq r => exact ⟨_, _, rfl, .inl ⟨SqL.of (h1 _ _ hq), fun p hp => GoodO.new h1 h2 hp (.tup (SqT.of upd_same) (r.mono (Ext.new (fa := fa) h1 hp).ff)) h⟩⟩
      | tup hq r => exact ⟨_, _, rfl, .inr ⟨same_seqT h1 hq, GoodO.here h1 h2 (.tup hq r) h⟩⟩
      | _ => exact h.elim
def intF : List D → Option D
  | [.int i] => some (.int i)
  | _ => none
theorem ok_int : CallOk X fa (fun xs H Q => (∃ i, xs = [.int i] ∧ Q (.int i) H) ∨ ∃ k, xs = [.bl k] ∧ Q (.int (if k then 1 else 0)) H) intF := by
  intro F H s xs as Q h1 h2 r h
  cases r with
  | nil => exact h.elim
  | cons r t =>
    cases t with
    | cons _ _ => cases r <;> exact h.elim
    | nil =>
      cases r with
      | int i => exact .inl ⟨i, rfl, GoodO.here h1 h2 (.int _) h⟩
      | _ => exact h.elim
def intsD : List D → Option (List Int)
  | [] => some []
  | .int i :: xs => (intsD xs).map fun r => i :: r
  | _ => none
def blsD : List D → Option (List Bool)
  | [] => some []
  | .bl i :: xs => (blsD xs).map fun r => i :: r
  | _ => none
theorem intsD_rep {K : PySem.W.Frag} {F : Hp} : ∀ {xs : List D} {vs : List V} {ns : List Int}, intsD xs = some ns → RepL K fa F xs vs → vs = ns.map V.int
  | _, _, _, h, .nil => by cases h; rfl
  | x :: xs, v :: vs, ns, h, .cons r t => by
    cases r with
    | int i =>
      rw [intsD] at h
      cases q : intsD xs with
      | none => rw [q] at h; cases h
      | some ms => rw [q] at h; cases h; rw [intsD_rep q t]; rfl
    | _ => cases h
theorem blsD_rep {K : PySem.W.Frag} {F : Hp} : ∀ {xs : List D} {vs : List V} {ns : List Bool}, blsD xs = some ns → RepL K fa F xs vs → vs = ns.map V.bl
  | _, _, _, h, .nil => by cases h; rfl
  | x :: xs, v :: vs, ns, h, .cons r t => by
    cases r with
    | bl i =>
      rw [blsD] at h
      cases q : blsD xs with
      | none => rw [q] at h; cases h
      | some ms => rw [q] at h; cases h; rw [blsD_rep q t]; rfl
    | _ => cases h
def maxL : List Int → Int
  | [] => 0
  | x :: xs => xs.foldl max x
theorem foldl_max : ∀ (xs : List Int) (a : Int), a ≤ xs.foldl max a ∧ (∀ x ∈ xs, x ≤ xs.foldl max a) ∧ (xs.foldl max a = a ∨ xs.foldl max a ∈ xs)
  | [], a => ⟨Int.le_refl _, fun _ h => by simp at h, .inl rfl⟩
  | x :: xs, a => by
    obtain ⟨h1, h2, h3⟩ := foldl_max xs (max a x)
    simp only [List.foldl_cons]
    refine ⟨by omega, fun y hy => ?_, ?_⟩
    · rcases List.mem_cons.mp hy with e | e
      · subst e; omega
      · exact h2 y e
    · rcases h3 with e | e
      · rcases Int.le_total a x with q | q
        · right; rw [e, Int.max_eq_right q]; exact List.mem_cons_self
        · left; rw [e, Int.max_eq_left q]
      · right; exact List.mem_cons_of_mem _ e
theorem maxL_uniq {ns : List Int} {m : Int} (h0 : m ∈ ns) (h : ∀ y ∈ ns, y ≤ m) : m = maxL ns := by
  cases ns with
  | nil => simp at h0
  | cons x xs =>
    obtain ⟨h1, h2, h3⟩ := foldl_max xs x
    show m = xs.foldl max x
    have a1 : m ≤ xs.foldl max x := by
      rcases List.mem_cons.mp h0 with e | e
      · rw [e]; exact h1
      · exact h2 m e
    have a2 : xs.foldl max x ≤ m := by
      rcases h3 with e | e
      · rw [e]; exact h x List.mem_cons_self
      · exact h _ (List.mem_cons_of_mem _ e)
    omega
/-- max of a list of ints; max(a, b) -/
def maxD : List D → Option D
  | [.lst xs] => (intsD xs).bind fun ns => if ns = [] then none else some (.int (maxL ns))
  | [.int a, .int b] => some (.int (if b > a then b else a))
  | _ => none
end
end DL

set_option Elab.async false
set_option linter.all false
set_option maxRecDepth 100000
set_option maxHeartbeats 2000000
/-! The data layer: more built-in functions; defs. -/
namespace DL
open PySem PySem.Spec PyProof.Rows L2
section
variable {X : Cx} {fa : Option FA} {W : L2.St → XK} {a b c e o : Expr} {es rest : List Expr} {pos p apos cpos : Pos} {f1 f2 f3 : Env' → M D} {fl : Env' → M (List D)}
theorem crl_max (hc : X.calm = true) : CallR X (.builtin "max") (fun xs H Q => rMax X.K xs H Q ∨ ∃ i j, xs = [.int i, .int j] ∧ Q (.int (if j > i then j else i)) H) := CallR.or (cr_max hc) (call_max2 hc)
theorem ok_max : CallOk X fa (fun xs H Q => rMax X.K xs H Q ∨ ∃ i j, xs = [.int i, .int j] ∧ Q (.int (if j > i then j else i)) H) maxD := by
  intro F H s xs as Q h1 h2 r h
  cases r with
  | nil => exact h.elim
  | cons r t =>
    cases t with
    | nil =>
      cases r with
      | @lst p xs vs hq r =>
        change GoodO X fa F H s ((intsD xs).bind fun ns => if ns = [] then none else some (.int (maxL ns))) Q at h
        cases q : intsD xs with
        | none => rw [q] at h; exact h.elim
        | some ns =>
          rw [q] at h
          change GoodO X fa F H s (if ns = [] then none else some (.int (maxL ns))) Q at h
          by_cases hn : ns = []
          · rw [if_pos hn] at h; exact h.elim
          · rw [if_neg hn] at h
            refine .inl ⟨p, ns, rfl, ?_, List.length_pos_iff.mpr hn, fun m hm hle => ?_⟩
            · rw [← intsD_rep q r]
              exact SqL.of (h1 _ _ hq)
            · rw [maxL_uniq hm hle]
              exact GoodO.here h1 h2 (.int _) h
      | _ => exact h.elim
    | cons r2 t2 =>
      cases t2 with
      | cons _ _ => cases r <;> cases r2 <;> exact h.elim
      | nil =>
        cases r with
        | int i =>
          cases r2 with
          | int j => exact .inr ⟨i, j, rfl, GoodO.here h1 h2 (.int _) h⟩
          | _ => exact h.elim
        | _ => cases r2 <;> exact h.elim
def min2D : List D → Option D
  | [.int a, .int b] => some (.int (if b < a then b else a))
  | _ => none
theorem ok_min2 : CallOk X fa (fun xs H Q => ∃ i j, xs = [.int i, .int j] ∧ Q (.int (if j < i then j else i)) H) min2D := by
  intro F H s xs as Q h1 h2 r h
  cases r with
  | nil => exact h.elim
  | cons r t =>
    cases t with
    | nil => cases r <;> exact h.elim
    | cons r2 t2 =>
      cases t2 with
      | cons _ _ => cases r <;> cases r2 <;> exact h.elim
      | nil =>
        cases r with
        | int i =>
          cases r2 with
          | int j => exact ⟨i, j, rfl, GoodO.here h1 h2 (.int _) h⟩
          | _ => exact h.elim
        | _ => cases r2 <;> exact h.elim
def allD : List D → Option D
  | [.lst xs] => (blsD xs).map fun bs => .bl (bs.all id)
  | _ => none
def anyD : List D → Option D
  | [.lst xs] => (blsD xs).map fun bs => .bl (bs.any id)
  | _ => none
def sumD : List D → Option D
  | [.lst xs] => (intsD xs).map fun bs => .int bs.sum
  | _ => none
theorem ok_all : CallOk X fa (rAll X.K) allD := by
  intro F H s xs as Q h1 h2 r h
  cases r with
  | nil => exact h.elim
  | cons r t =>
    cases t with
    | cons _ _ => cases r <;> exact h.elim
    | nil =>
      cases r with
      | @lst p xs vs hq r =>
        change GoodO X fa F H s ((blsD xs).map fun bs => .bl (bs.all id)) Q at h
        cases q : blsD xs with
        | none => rw [q] at h; exact h.elim
        | some bs =>
          rw [q] at h
          exact ⟨p, bs, rfl, by rw [← blsD_rep q r]; exact SqL.of (h1 _ _ hq), GoodO.here h1 h2 (.bl _) h⟩
      | _ => exact h.elim
theorem ok_any : CallOk X fa (rAny X.K) anyD := by
  intro F H s xs as Q h1 h2 r h
  cases r with
  | nil => exact h.elim
  | cons r t =>
    cases t with
    | cons _ _ => cases r <;> exact h.elim
    | nil =>
      cases r with
      | @lst p xs vs hq r =>
        change GoodO X fa F H s ((blsD xs).map fun bs => .bl (bs.any id)) Q at h
        cases q : blsD xs with
        | none => rw [q] at h; exact h.elim
        | some bs =>
          rw [q] at h
          exact ⟨p, bs, rfl, by rw [← blsD_rep q r]; exact SqL.of (h1 _ _ hq), GoodO.here h1 h2 (.bl _) h⟩
      | _ => exact h.elim
theorem ok_sum : CallOk X fa (rSum X.K) sumD := by
  intro F H s xs as Q h1 h2 r h
  cases r with
  | nil => exact h.elim
  | cons r t =>
    cases t with
    | cons _ _ => cases r <;> exact h.elim
    | nil =>
      cases r with
      | @lst p xs vs hq r =>
        change GoodO X fa F H s ((intsD xs).map fun bs => .int bs.sum) Q at h
        cases q : intsD xs with
        | none => rw [q] at h; exact h.elim
        | some bs =>
          rw [q] at h
          exact ⟨p, bs, rfl, by rw [← intsD_rep q r]; exact SqL.of (h1 _ _ hq), GoodO.here h1 h2 (.int _) h⟩
      | _ => exact h.elim

/-! ### isinstance with built-in classes -/
def tyD : D → Option String
  | .non => some "NoneType"
  | .bl _ => some "bool"
  | .int _ => some "int"
  | .str _ => some "str"
  | .tup _ => some "tuple"
  | .lst _ => some "list"
  | .dic _ => some "dict"
  | _ => none
theorem tyD_rep {F H : Hp} {d : D} {v : V} {t : String} (h1 : Same F H) (h : tyD d = some t) (r : Rep X.K fa F d v) : TyX X.K H v (.type t) := by
  cases r with
  | non => cases h; exact .base .non
  | bl b => cases h; exact .base (.bl b)
  | int b => cases h; exact .base (.int b)
  | str b => cases h; exact .base (.str b)
  | tup hq _ =>
    cases h
    rcases same_seqT h1 hq with (h | ⟨o, h⟩) | ⟨o, its, n, hk, hc, _⟩
    · exact .base (.tup h)
    · exact .fTuple h
    · exact .kTuple hk hc
  | lst hq _ => cases h; exact .base (.lst (h1 _ _ hq))
  | dic hq _ =>
    cases h
    rcases same_rd h1 hq with h | ⟨o, h⟩
    · exact .base (.dK h)
    · exact .fDict h
  | feed _ _ => cases h
  | opq _ => cases h
  | scr _ => cases h
/-- isinstance(x, T) -/
def isiD : List D → Option D
  | [d, .opq (.ty T)] => (tyD d).bind fun t => (kitB t T).map .bl
  | _ => none
theorem ok_isi : CallOk X fa (rIsi X.K) isiD := by
  intro F H s xs as Q h1 h2 r h
  unfold isiD at h
  split at h
  · rename_i d T
    cases r with
    | cons r t =>
      cases t with
      | cons r2 t2 =>
        cases t2
        cases r2
        rename_i v'
        cases q : tyD d with
        | none => rw [q] at h; exact h.elim
        | some t =>
          rw [q] at h
          change GoodO X fa F H s ((kitB t T).map .bl) Q at h
          cases q2 : kitB t T with
          | none => rw [q2] at h; exact h.elim
          | some k =>
            rw [q2] at h
            exact ⟨v', .ty T, .type t, .type T, k, rfl, .ty T, tyD_rep h1 q r, kit_ty q2, GoodO.here h1 h2 (.bl _) h⟩
  · exact h.elim
/-- isinstance(x, (T, ..)), the tuple written there -/
def kitAnyB (t : String) : List String → Option Bool
  | [] => some false
  | c :: r => match kitB t c with
    | some true => some true
    | some false => kitAnyB t r
    | none => none
theorem kitAnyB_ok {K : PySem.W.Frag} {t : String} : ∀ {ts : List String} {k : Bool}, kitAnyB t ts = some k → PySem.W.kitAny K (.type t) (ts.map Value.type) = some k
  | [], k, h => by cases h; rfl
  | c :: r, k, h => by
    rw [kitAnyB] at h
    rw [List.map_cons, PySem.W.kitAny]
    cases q : kitB t c with
    | none => rw [q] at h; cases h
    | some b =>
      rw [q] at h
      rw [kit_ty q]
      cases b with
      | true => exact h
      | false => exact kitAnyB_ok h
def dIsi (ts : List String) (f : Env' → M D) : Env' → M D := fun ρ => (f ρ).bind fun x => M.lift ((tyD x).bind fun t => (kitAnyB t ts).map .bl)
theorem ed_isi2 {x t1 t2 : Str} {n1 n2 : String} {k : Nat} {p1 p2 tp : Pos} (ha : ED X fa W e f1) (hm : X.mg x = none) (m1 : X.mg t1 = none) (m2 : X.mg t2 = none) (hv : bootBuiltins x = some (.builtin "isinstance") := by decide +kernel) (v1 : bootBuiltins t1 = some (.type n1) := by decide +kernel) (v2 : bootBuiltins t2 = some (.type n2) := by decide +kernel)
    (hg : Gl X x := by rfl) (g1 : Gl X t1 := by rfl) (g2 : Gl X t2 := by rfl) (hn : x ≠ "__name__" := by decide) (w1 : t1 ≠ "__name__" := by decide) (w2 : t2 ≠ "__name__" := by decide) (hdb : (x == ("__debug__" : Str)) = false := by decide) (d1 : (t1 == ("__debug__" : Str)) = false := by decide) (d2 : (t2 == ("__debug__" : Str)) = false := by decide)
    (he : starEach [e, .Tuple [.Name t1 p1, .Name t2 p2] k tp] X.env = (false, eval e X.env) :: starEach [.Tuple [.Name t1 p1, .Name t2 p2] k tp] X.env := by rfl) (he2 : starEach [.Tuple [.Name t1 p1, .Name t2 p2] k tp] X.env = (false, eval (.Tuple [.Name t1 p1, .Name t2 p2] k tp) X.env) :: starEach [] X.env := by rfl)
    (s1 : starEach [.Name t1 p1, .Name t2 p2] X.env = (false, eval (.Name t1 p1) X.env) :: starEach [.Name t2 p2] X.env := by rfl) (s2 : starEach [.Name t2 p2] X.env = (false, eval (.Name t2 p2) X.env) :: starEach [] X.env := by rfl)
    (hpl : (backTo pos (starEach [.Tuple [.Name t1 p1, .Name t2 p2] k tp] X.env)).any (·.1) = false := by rfl) : ED X fa W (.Call (.Name x p) [e, .Tuple [.Name t1 p1, .Name t2 p2] k tp] [] pos) (dIsi [n1, n2] f1) := by
  obtain ⟨ta, pa, ka⟩ := ha
  refine ⟨_, pe_callB call_isiT hg hm hv (pa_cons pa (pa_cons (pe_tup (pa_cons (pe_bltn g1 m1 v1 (v := .ty n1) rfl w1 d1) (pa_cons (pe_bltn g2 m2 v2 (v := .ty n2) rfl w2 d2) pa_nil s2) s1)) pa_nil he2) he) hn hdb he hpl, fun σ F H ρ s Q h1 h2 h3 h => ?_⟩
  refine ka.then Good.tgt h1 h2 h3 h fun d s1 v F1 H1 e1 o1 r1 v1 h' => ?_
  refine ⟨by show 2 ≤ sizeLine; decide, fun tp hp => ?_⟩
  have h4 := Good.lift h'
  cases q : tyD d with
  | none => rw [q] at h4; exact h4.elim
  | some t =>
    rw [q] at h4
    change GoodO X fa F1 H1 s1 ((kitAnyB t [n1, n2]).map .bl) Q at h4
    cases q2 : kitAnyB t [n1, n2] with
    | none => rw [q2] at h4; exact h4.elim
    | some b =>
      rw [q2] at h4
      have en := Ext.new (fa := fa) (o := .tup [.ty n1, .ty n2]) e1.fh hp
      exact ⟨v, tp, [.ty n1, .ty n2], .type t, [.type n1, .type n2], b, rfl, upd_same, .cons (.ty n1) (.cons (.ty n2) .nil), tyD_rep (Same.trans e1.fh (fun b o z => by rw [upd_ne (ne_of_none z hp)]; exact z)) q r1, kitAnyB_ok q2, h4 (.bl b) _ _ en (o1.new e1.fh hp) (.bl b)⟩

/-! ### methods of data -/
theorem ed_mt {T id : String} {m : Str} {r : V → List V → Hp → VK → Prop} {g : D → List D → Option D} (pa0 : PlainAttrs T) (slot : Slot T m id) (hty : typeOf (.builtin id) = pure (.type "method_descriptor")) (hm : MtR X id r) (ok : MtOk X fa r g) (ty : ∀ F H d v, Same F H → Rep X.K fa F d v → tyD d = some T → tyV X.K T v H)
    (ht : ∀ d as, g d as ≠ none → tyD d = some T) (ho : ED X fa W o f1) (ha : LD X fa W (e :: es) fl) (hbase : attributeBase o m X.env (eval o X.env) = eval o X.env := by rfl)
    (hfew : ((backTo cpos (starEach (e :: es) X.env)).all (fun x => !x.1) && (backToKw cpos (keywordEach [] X.env)).all (fun x => x.1.isSome) && decide ((e :: es).length + ([] : List Keyword).length + (if ([] : List Keyword).isEmpty then 0 else 1) < 30)) = true := by rfl)
    (hline : (apos.endLine == cpos.line) = true := by rfl) (hs : starEach (e :: es) X.env = (false, eval e X.env) :: starEach es X.env := by rfl) (hplain : (backTo cpos (starEach es X.env)).any (·.1) = false := by rfl) :
    ED X fa W (.Call (.Attribute o m apos) (e :: es) [] cpos) (fun ρ => (f1 ρ).bind fun x => if tyD x = some T then (fl ρ).bind fun xs => M.lift (g x xs) else M.bad) := by
  obtain ⟨to, po, ko⟩ := ho
  obtain ⟨ta, pa, ka⟩ := ha
  refine ⟨_, pe_bm pa0 slot hty hm po pa hbase hfew hline hs hplain, fun σ F H ρ s Q h1 h2 h3 h => ?_⟩
  refine ko.then Good.tgt h1 h2 h3 h fun x s1 v F1 H1 e1 o1 r1 v1 h' => ?_
  by_cases hT : tyD x = some T
  · rw [if_pos hT] at h'
    refine ⟨ty F1 H1 x v e1.fh r1 hT, ?_⟩
    refine ka.then Good.tgt e1.fh o1 v1 h' fun xs s2 ws F2 H2 e2 o2 r2 v2 h'' => ?_
    exact ok F2 H2 s2 v ws x xs Q e2.fh o2 (r1.mono e2.ff) r2 (Good.lift h'')
  · rw [if_neg hT] at h'
    exact h'.elim
theorem tyV_list : ∀ F H d v, Same F H → Rep X.K fa F d v → tyD d = some "list" → tyV X.K "list" v H := by
  intro F H d v h1 r h
  cases r with
  | lst hq _ => exact .inl ⟨rfl, _, SqL.of (h1 _ _ hq)⟩
  | _ => first | cases h | (injection h with h; exact absurd h (by decide))
/-- xs.index(y), flat items -/
def indexD : D → List D → Option D
  | .lst xs, [y] => (scalV y).bind fun w => (flatL xs).bind fun vs => if vs.any (fun z => eqV z w) = true then some (.int (vs.findIdx fun z => eqV z w : Nat)) else none
  | _, _ => none
theorem ok_index : MtOk X fa (rIndex X.K) indexD := by
  intro F H s x xs a as Q h1 h2 r rs h
  cases r with
  | @lst p xs vs hq r =>
    cases rs with
    | nil => exact h.elim
    | cons ry t =>
      cases t with
      | cons _ _ => exact h.elim
      | nil =>
        rename_i y w'
        change GoodO X fa F H s ((scalV y).bind fun w => (flatL xs).bind fun vs => if vs.any (fun z => eqV z w) = true then some (.int (vs.findIdx fun z => eqV z w : Nat)) else none) Q at h
        cases q : scalV y with
        | none => rw [q] at h; exact h.elim
        | some w =>
          rw [q] at h
          change GoodO X fa F H s ((flatL xs).bind fun vs => if vs.any (fun z => eqV z w) = true then some (.int (vs.findIdx fun z => eqV z w : Nat)) else none) Q at h
          cases q2 : flatL xs with
          | none => rw [q2] at h; exact h.elim
          | some us =>
            rw [q2] at h
            change GoodO X fa F H s (if us.any (fun z => eqV z w) = true then some (.int (us.findIdx fun z => eqV z w : Nat)) else none) Q at h
            by_cases hs : us.any (fun z => eqV z w) = true
            · rw [if_pos hs] at h
              obtain rfl := scalV_rep q ry
              obtain rfl := flatL_rep q2 r
              obtain ⟨z, hz, hzw⟩ := List.any_eq_true.mp hs
              have hlt : vs.findIdx (fun z => eqV z w') < vs.length := List.findIdx_lt_length_of_exists ⟨z, hz, hzw⟩
              refine ⟨p, vs, w', _, _, rfl, rfl, SqL.of (h1 _ _ hq), scalV_flat q, flatL_flat q2, List.getElem?_eq_getElem hlt, List.findIdx_getElem (w := hlt), fun m z' hm hz' => ?_, GoodO.here h1 h2 (.int _) h⟩
              have hml : m < vs.length := (List.getElem?_eq_some_iff.mp hz').1
              have e := (List.getElem?_eq_some_iff.mp hz').2
              have := List.not_of_lt_findIdx (p := fun z => eqV z w') hm
              rw [← e]
              simpa using this
            · rw [if_neg hs] at h
              exact h.elim
  | _ => exact h.elim
end
end DL

set_option Elab.async false
set_option linter.all false
set_option maxRecDepth 100000
set_option maxHeartbeats 2000000
/-! The data layer: defs. -/
namespace DL
open PySem PySem.Spec PyProof.Rows L2

/-- a body as a function of its arguments: n names, k parameters -/
def runD (n k : Nat) (body : Sts → M (Fl × Sts)) : List D → M D := fun ds => if ds.length = k then (body (ds.map EV.d ++ List.replicate (n - k) .no)).bind fun p => match p.1 with
  | .nx => M.pure .non
  | .rt d => M.pure d
  | _ => M.bad
  else M.bad
/-- exceptions of a def leave it -/
theorem pass_def {P : Program} {w : World} {K : PySem.W.Frag} {mg : Str → Option Value} {base : Heap} {N : List Str} {qual : Str} {scope : Scope} {f : Addr} {cd : Value} {A : Around} {outer : List Env} {s : Shared} {H : Hp} {E : XK} :
    ∀ σ, PassesAt (L2.CX (cxOf (L2.CX P w) P w K mg base N qual scope f cd A outer s H E).prog (cxOf (L2.CX P w) P w K mg base N qual scope f cd A outer s H E).w) (cxOf (L2.CX P w) P w K mg base N qual scope f cd A outer s H E) σ ((fun _ => E) σ) :=
  fun σ => passAt (W := fun cls d _ H => E cls d H) (takes_of rfl rfl rfl rfl) σ
theorem pass_blk {X : Cx} {s : Shared} {H : Hp} {scope : Scope} {cenv : Env} {fp : List Addr} : ∀ σ, PassesAt (L2.CX X.prog X.w) (X.blk s H scope cenv fp) σ (Wno σ) := by
  intro σ pins H s e s' I c
  obtain ⟨_, _, _, _, _, _, _, _, _, _, _, _, h⟩ := c
  exact h
section
variable {P : Program} {w : World} {K : PySem.W.Frag} {mg : Str → Option Value} {base : Heap}
theorem SOk.start {fa : Option FA} {F H : Hp} {s : FS} {N : List Str} {ds : List D} {vs : List V} (h1 : Same F H) (h2 : FeedOk K fa F H s) (r : RepL K fa F ds vs) (hl : ds.length ≤ N.length) :
    SOk K fa F F H F H (fun _ => 0) (L2.start N vs) (ds.map EV.d ++ List.replicate (N.length - ds.length) .no) s := by
  have low : ∀ (i : Nat) ev, (ds.map EV.d ++ List.replicate (N.length - ds.length) EV.no)[i]? = some ev → (∃ d, ds[i]? = some d ∧ ev = .d d) ∨ ev = .no := fun i ev h => by
    by_cases hi : i < ds.length
    · rw [List.getElem?_append_left (by simpa using hi), List.getElem?_map] at h
      cases q : ds[i]? with
      | none => rw [q] at h; cases h
      | some d => rw [q] at h; cases h; exact .inl ⟨d, rfl, rfl⟩
    · rw [List.getElem?_append_right (by simp; omega), List.getElem?_replicate] at h
      split at h
      · cases h; exact .inr rfl
      · cases h
  refine ⟨Ext.refl h1, Same.refl _, h2, by unfold L2.start; simp [r.length], fun i ev h => ?_, fun i j e e' h _ ho => ?_⟩
  · rcases low i ev h with ⟨d, hd, rfl⟩ | rfl
    · obtain ⟨v, hv, rv⟩ := r.get' hd
      refine ⟨v, ?_, rv⟩
      unfold L2.start
      rw [List.getElem?_append_left (by simpa using (List.getElem?_eq_some_iff.mp hv).1), List.getElem?_map, hv]
      rfl
    · trivial
  · rcases low i e h with ⟨d, hd, rfl⟩ | rfl <;> cases ho
theorem dsp_len {n k : Nat} {body : Sts → M (Fl × Sts)} {vs : List V} {H : Hp} {Q : VK} {E : XK} (h : DSp K mg (runD n k body) vs H Q E) : vs.length = k := by
  obtain ⟨fa, F, s, ds, h1, h2, r, g⟩ := h
  rw [← r.length]
  by_cases e : ds.length = k
  · exact e
  · unfold runD at g
    rw [if_neg e] at g
    exact g.elim
/-- THE RULE: a def whose body does `body` computes runD body -/
theorem fn_d {x qual : Str} {st : Stmt} {f : Addr} {fd : FuncData} {N ps : List Str} {k : Nat} {body : Sts → M (Fl × Sts)} (F : Fun K x qual st f fd) (S : FnScope N ps (defScope st)) (hN : ps.length ≤ N.length)
    (hbody : ∀ (cdv : Value) (A : Around) (outer : List Env) (s : Shared) (H : Hp) (E : XK) (fa : Option FA), Room k (A.deeper (envOfC qual (defScope st) s.heap.objs.size f cdv)) →
      SSJ (cxOf (L2.CX P w) P w K mg base N qual (defScope st) f cdv A outer s H E) fa E (defBody st) body) :
    FnOk P w K mg base (L2.CX P w) (k + 1) f fd ps (DSp K mg (runD N.length ps.length body)) := by
  refine F.okX S (fun vs H Q E h => dsp_len h) fun cdv A outer s H vs Q E hr h => ?_
  obtain ⟨fa, Fz, fs, ds, h1, h2, r, g⟩ := h
  obtain ⟨t, p, kk⟩ := hbody cdv A outer s H E fa hr
  refine ⟨t, p, ?_⟩
  unfold runD at g
  by_cases e : ds.length = ps.length
  · rw [if_pos e] at g
    have S0 := SOk.start (N := N) h1 h2 r (by omega)
    rw [e] at S0
    refine kk Fz Fz H Fz H _ _ _ fs _ S0 ?_
    change GoodK K mg fa E Fz H ((body (ds.map EV.d ++ List.replicate (N.length - ps.length) .no) fs).bnd _) Q at g
    generalize body (ds.map EV.d ++ List.replicate (N.length - ps.length) .no) fs = rr at g
    cases rr with
    | bad => exact g
    | err e s' => exact g
    | ok q s' =>
      obtain ⟨fl, ρ'⟩ := q
      cases fl with
      | nx => exact fun σ' F' H' A' S' => g .non F' H' S'.ext S'.fd .non
      | rt d => exact fun v F' H' ex fo rv _ => g v F' H' ex fo rv
      | bk => exact g.elim
      | ct => exact g.elim
  · rw [if_neg e] at g
    exact g.elim

end
end DL

set_option Elab.async false
set_option linter.all false
set_option maxRecDepth 100000
set_option maxHeartbeats 2000000
/-! The data layer: a def that changes the feed in place. -/
namespace DL
open PySem PySem.Spec PyProof.Rows L2

def feedL (s : FS) : List D := [.lst (s.cells.map D.int), .int s.at_, .int s.rest, .int s.cnt, .int s.stir]
def fs0 : FS := ⟨[], 0, 0, 0, 0⟩
/-- the feed's list, the other slots (ints or nothing) -/
structure DS where
  L : List D
  ρ : List (Option Int)
def DS.env (d : DS) : Env' := some (.lst d.L) :: d.ρ.map fun o => o.map D.int
/-- the state of such a def: the feed at p -/
structure DJ (X : Cx) (p c0 : Addr) (F0 H0 H : Hp) (σ : L2.St) (d : DS) : Prop where
  le : Same F0 H
  hh : ∀ b o, H0 b = some o → b ≠ p → H b = some o
  al : ∀ b, H0 b ≠ none → H b ≠ none
  f0 : F0 p = none
  at_ : ∃ vs, H p = some (.lst vs) ∧ RepL X.K none F0 d.L vs ∧ vs[0]? = some (.ref c0)
  s0 : σ[0]? = some (some (.ref p))
  sl : ∀ (i : Nat) (k : Int), d.ρ[i]? = some (some k) → σ[i + 1]? = some (some (.int k))
  len : σ.length = d.ρ.length + 1
section
variable {X : Cx} {p c0 : Addr} {F0 H0 H : Hp} {σ : L2.St} {d : DS} {E : XK}
theorem DJ.envOk (J : DJ X p c0 F0 H0 H σ d) {vs : List V} (h : H p = some (.lst vs)) (r : RepL X.K none F0 d.L vs) : Same (upd F0 p (.lst vs)) H ∧ EnvOk X.K none (upd F0 p (.lst vs)) σ d.env := by
  have ff : Same F0 (upd F0 p (.lst vs)) := fun b o e => by rw [upd_ne (ne_of_none e J.f0)]; exact e
  refine ⟨fun b o e => ?_, by unfold DS.env; simp [J.len], fun i x hx => ?_⟩
  · by_cases hb : b = p
    · subst hb; rw [upd_same] at e; rw [h]; exact e
    · rw [upd_ne hb] at e; exact J.le b o e
  · unfold DS.env at hx
    match i, hx with
    | 0, hx =>
      cases hx
      exact ⟨_, J.s0, .lst upd_same (r.mono ff)⟩
    | i + 1, hx =>
      rw [List.getElem?_cons_succ, List.getElem?_map] at hx
      cases q : d.ρ[i]? with
      | none => rw [q] at hx; cases hx
      | some o =>
        rw [q] at hx
        cases o with
        | none => cases hx
        | some k =>
          cases hx
          exact ⟨_, J.sl i k q, .int k⟩
/-- an expression whose value is an int -/
theorem dj_eval {t : TE} {f : Env' → M D} (k : TOk X none Wno t f) (J : DJ X p c0 F0 H0 H σ d) {n : Int} {Q : VK} (hf : f d.env fs0 = .ok (.int n) fs0) (q : ∀ H', DJ X p c0 F0 H0 H' σ d → Q (.int n) H') : t σ H Q := by
  obtain ⟨vs, h, r, rc⟩ := J.at_
  obtain ⟨le, en⟩ := J.envOk h r
  refine k σ (upd F0 p (.lst vs)) H d.env fs0 Q le (fun φ e => nomatch e) en ?_
  rw [hf]
  intro v F' H' e fo rv
  cases rv
  have hp : F' p = some (.lst vs) := e.ff _ _ upd_same
  refine q H' ⟨fun b o z => e.fh _ _ (e.ff b o ?_), fun b o z hb => e.hh b o (J.hh b o z hb) fun φ z => (nomatch z), fun b z => e.al b (J.al b z), J.f0, ⟨vs, e.fh _ _ hp, r, rc⟩, J.s0, J.sl, J.len⟩
  rw [upd_ne (ne_of_none z J.f0)]
  exact z
theorem dj_test {t : TT} {f : Env' → M Bool} (k : TTOk X none Wno t f) (J : DJ X p c0 F0 H0 H σ d) {n : Bool} {Q : Bool → Hp → Prop} (hf : f d.env fs0 = .ok n fs0) (q : ∀ H', DJ X p c0 F0 H0 H' σ d → Q n H') : t σ H Q := by
  obtain ⟨vs, h, r, rc⟩ := J.at_
  obtain ⟨le, en⟩ := J.envOk h r
  refine k σ (upd F0 p (.lst vs)) H d.env fs0 Q le (fun φ e => nomatch e) en ?_
  rw [hf]
  intro F' H' e fo
  have hp : F' p = some (.lst vs) := e.ff _ _ upd_same
  refine q H' ⟨fun b o z => e.fh _ _ (e.ff b o ?_), fun b o z hb => e.hh b o (J.hh b o z hb) fun φ z => (nomatch z), fun b z => e.al b (J.al b z), J.f0, ⟨vs, e.fh _ _ hp, r, rc⟩, J.s0, J.sl, J.len⟩
  rw [upd_ne (ne_of_none z J.f0)]
  exact z
/-- a statement: what it makes of the state; a number is handed back -/
def SIK (X : Cx) (t : TS) (g : DS → Option (Option Int × DS)) : Prop :=
  ∀ (p c0 : Addr) (F0 H0 H : Hp) (σ : L2.St) (d : DS) (Dn : Ends), DJ X p c0 F0 H0 H σ d → (match g d with
    | none => False
    | some (none, d') => ∀ σ' H', DJ X p c0 F0 H0 H' σ' d' → Dn.nx σ' H'
    | some (some k, d') => ∀ σ' H', DJ X p c0 F0 H0 H' σ' d' → Dn.rt (.int k) H') → t Dn σ H
def SI (X : Cx) (st : Stmt) (g : DS → Option (Option Int × DS)) : Prop := ∃ t, PS X st t ∧ SIK X t g
def SIs (X : Cx) (st : List Stmt) (g : DS → Option (Option Int × DS)) : Prop := ∃ t, PSs X st t ∧ SIK X t g
/-- the number that an expression gives -/
def numOf (f : Env' → M D) (d : DS) : Option Int := match f d.env fs0 with
  | .ok (.int n) ⟨[], 0, 0, 0, 0⟩ => some n
  | _ => none
def boolOf (f : Env' → M Bool) (d : DS) : Option Bool := match f d.env fs0 with
  | .ok n ⟨[], 0, 0, 0, 0⟩ => some n
  | _ => none
theorem numOf_eq {f : Env' → M D} {n : Int} (h : numOf f d = some n) : f d.env fs0 = .ok (.int n) fs0 := by
  unfold numOf at h
  split at h
  · rename_i q
    cases h
    exact q
  · cases h
theorem boolOf_eq {f : Env' → M Bool} {n : Bool} (h : boolOf f d = some n) : f d.env fs0 = .ok n fs0 := by
  unfold boolOf at h
  split at h
  · rename_i q
    cases h
    exact q
  · cases h
def hNext : DS → Option (Option Int × DS) := fun d => some (none, d)
def hSeq (g g' : DS → Option (Option Int × DS)) : DS → Option (Option Int × DS) := fun d => (g d).bind fun q => match q.1 with
  | none => g' q.2
  | some k => some (some k, q.2)
def hSet (i : Nat) (f : Env' → M D) : DS → Option (Option Int × DS) := fun d => (numOf f d).map fun n => (none, ⟨d.L, d.ρ.set i (some n)⟩)
def hStore (f : Env' → M D) (k : Int) : DS → Option (Option Int × DS) := fun d => (numOf f d).bind fun n => (ixN d.L.length k).map fun j => (none, ⟨d.L.set j (.int n), d.ρ⟩)
def hIf (c : Env' → M Bool) (g g' : DS → Option (Option Int × DS)) : DS → Option (Option Int × DS) := fun d => (boolOf c d).bind fun k => if k = true then g d else g' d
def hRet (f : Env' → M D) : DS → Option (Option Int × DS) := fun d => (numOf f d).map fun n => (some n, d)
variable {e c : Expr} {f : Env' → M D} {g g' : DS → Option (Option Int × DS)} {st : Stmt} {sts sts' : List Stmt} {pos : Pos}
theorem sis_nil : SIs X [] hNext := ⟨_, pss_nil, fun p c0 F0 H0 H σ d Dn J h => h σ H J⟩
theorem sis_one (h : SI X st g) : SIs X [st] g := by
  obtain ⟨t, q, k⟩ := h
  exact ⟨_, pss_one q, k⟩
theorem sis_cons (h1 : SI X st g) (h2 : SIs X sts g') : SIs X (st :: sts) (hSeq g g') := by
  obtain ⟨t, q, k⟩ := h1
  obtain ⟨t', q', k'⟩ := h2
  refine ⟨_, pss_cons q q', fun p c0 F0 H0 H σ d Dn J h => ?_⟩
  refine k p c0 F0 H0 H σ d _ J ?_
  unfold hSeq at h
  cases r : g d with
  | none => rw [r] at h; exact h
  | some z =>
    rw [r] at h
    obtain ⟨o, d'⟩ := z
    cases o with
    | none => exact fun σ' H' J' => k' p c0 F0 H0 H' σ' d' Dn J' h
    | some n => exact h
theorem si_set {i : Nat} {x : Str} {pos' : Pos} (hN : X.N.Nodup) (he : ED X none Wno e f) (hi : X.N[i + 1]? = some x := by rfl) (hx : Loc X.env.scope x := by first | exact .inl rfl | exact .inr rfl) (hs : swapsWith e (some (.Name x pos')) pos.line X.env = pure false := by rfl)
    (hf : X.fn x = true ∨ X.env.scope.names.lookup x = some .local := by first | exact .inl rfl | exact .inr rfl | assumption) : SI X (.Assign [.Name x pos'] e pos) (hSet i f) := by
  obtain ⟨t, q, k⟩ := he
  refine ⟨_, ps_set hN hi hx q hs hf, fun p c0 F0 H0 H σ d Dn J h => ?_⟩
  unfold hSet at h
  cases r : numOf f d with
  | none => rw [r] at h; exact h.elim
  | some n =>
    rw [r] at h
    refine dj_eval k J (numOf_eq r) fun H' J' => h _ H' ⟨J'.le, J'.hh, J'.al, J'.f0, J'.at_, ?_, fun j m hj => ?_, by simp [J'.len]⟩
    · rw [List.getElem?_set_ne (by omega)]; exact J'.s0
    · by_cases hji : i = j
      · subst hji
        have hl : i < d.ρ.length := by
          have := (List.getElem?_eq_some_iff.mp hj).1
          simpa using this
        rw [List.getElem?_set_self hl] at hj
        cases hj
        rw [List.getElem?_set_self (by rw [J'.len]; omega)]
      · rw [List.getElem?_set_ne hji] at hj
        rw [List.getElem?_set_ne (by omega)]
        exact J'.sl j m hj
theorem ix_pos {j : Int} {n m : Nat} (hj : 0 < j) (h : ixN n j = some m) : m ≠ 0 := by
  unfold ixN at h
  rw [if_pos (by omega)] at h
  split at h
  · cases h; omega
  · cases h
theorem si_store {x : Str} {j : Int} {jj : Nat} {jp px pos' : Pos} (he : ED X none Wno e f) (ho : PE X (.Name x px) (tVar 0)) (hj : 0 < j := by decide) (hs : swapsWithSole [.Subscript (.Name x px) (.Constant (.int j) jj jp) pos'] e pos.line X.env = pure false := by rfl) (hw : swappedStores [.Subscript (.Name x px) (.Constant (.int j) jj jp) pos'] e X.env = pure none := by rfl)
    (h1 : (assignEach [.Subscript (.Name x px) (.Constant (.int j) jj jp) pos'] X.env).map (·.2) = [assign (.Subscript (.Name x px) (.Constant (.int j) jj jp) pos') X.env] := by rfl)
    (ha : ∀ v, assign (.Subscript (.Name x px) (.Constant (.int j) jj jp) pos') X.env v = (do
      let ov ← holding [v] (eval (.Name x px) X.env)
      let iv ← holding [v, ov] (eval (.Constant (.int j) jj jp) X.env)
      standAt pos'
      holding [v, ov, iv] (setItem ov iv v)
      release [v, ov, iv] []) := by intro _; rfl) : SI X (.Assign [.Subscript (.Name x px) (.Constant (.int j) jj jp) pos'] e pos) (hStore f j) := by
  obtain ⟨t, q, k⟩ := he
  refine ⟨_, ps_asg q (pg_sub ho pe_int set_list ha) hs hw h1, fun p c0 F0 H0 H σ d Dn J h => ?_⟩
  unfold hStore at h
  cases r : numOf f d with
  | none => rw [r] at h; exact h.elim
  | some n =>
    rw [r] at h
    change (match (ixN d.L.length j).map fun j => (none, (⟨d.L.set j (.int n), d.ρ⟩ : DS)) with
    | none => False
    | some (none, d') => ∀ σ' H', DJ X p c0 F0 H0 H' σ' d' → Dn.nx σ' H'
    | some (some k, d') => ∀ σ' H', DJ X p c0 F0 H0 H' σ' d' → Dn.rt (.int k) H') at h
    cases r2 : ixN d.L.length j with
    | none => rw [r2] at h; exact h.elim
    | some m =>
      rw [r2] at h
      refine dj_eval k J (numOf_eq r) fun H' J' => ?_
      obtain ⟨vs, hv, rl, rc⟩ := J'.at_
      refine ⟨_, J'.s0, p, vs, j, m, rfl, rfl, hv, by rw [← rl.length]; exact r2, ?_⟩
      refine h σ _ ⟨fun b o z => ?_, fun b o z hb => ?_, fun b z => ?_, J'.f0, ⟨_, upd_same, RepL.setI m (.int n) rl, by rw [List.getElem?_set_ne (ix_pos hj r2)]; exact rc⟩, J'.s0, J'.sl, J'.len⟩
      · rw [upd_ne (ne_of_none z J'.f0)]; exact J'.le b o z
      · rw [upd_ne hb]; exact J'.hh b o z hb
      · by_cases hb : b = p
        · subst hb; rw [upd_same]; simp
        · rw [upd_ne hb]; exact J'.al b z
theorem si_if {cc : Env' → M Bool} (hc : TD X none Wno c cc) (h1 : SIs X sts g) (h2 : SIs X sts' g') : SI X (.If c sts sts' pos) (hIf cc g g') := by
  obtain ⟨tc, qc, kc⟩ := hc
  obtain ⟨t, q, k⟩ := h1
  obtain ⟨t', q', k'⟩ := h2
  refine ⟨_, ps_if qc q q', fun p c0 F0 H0 H σ d Dn J h => ?_⟩
  unfold hIf at h
  cases r : boolOf cc d with
  | none => rw [r] at h; exact h.elim
  | some n =>
    rw [r] at h
    refine dj_test kc J (boolOf_eq r) fun H' J' => ?_
    cases n with
    | true => exact iteT (k p c0 F0 H0 H' σ d Dn J' h)
    | false => exact iteF (k' p c0 F0 H0 H' σ d Dn J' h)
theorem si_ret (he : ED X none Wno e f) : SI X (.Return (some e) pos) (hRet f) := by
  obtain ⟨t, q, k⟩ := he
  refine ⟨_, ps_ret q, fun p c0 F0 H0 H σ d Dn J h => ?_⟩
  unfold hRet at h
  cases r : numOf f d with
  | none => rw [r] at h; exact h.elim
  | some n =>
    rw [r] at h
    exact dj_eval k J (numOf_eq r) fun H' J' => h σ H' J'
end

/-! ### the promise -/
def feedFn (g : Int → M Int) : List D → M D
  | [.feed, .int i] => fun s => match g i s with
    | .ok k s' => .ok (.int k) s'
    | _ => .bad
  | _ => M.bad
theorem feedFn_shape (g : Int → M Int) (ds : List D) (fs : FS) : feedFn g ds fs = .bad ∨ ∃ i k s', ds = [.feed, .int i] ∧ g i fs = .ok k s' ∧ feedFn g ds fs = .ok (.int k) s' := by
  unfold feedFn
  split
  · rename_i i
    cases q : g i fs with
    | bad => exact .inl rfl
    | err e s => exact .inl rfl
    | ok k s' => exact .inr ⟨i, k, s', rfl, q, rfl⟩
  · exact .inl rfl
theorem fn_feed {P : Program} {w : World} {K : PySem.W.Frag} {mg : Str → Option Value} {base : Heap} {x qual : Str} {st : Stmt} {f : Addr} {fd : FuncData} {N ps : List Str} {k : Nat} {body : DS → Option (Option Int × DS)} {g : Int → M Int} (F : Fun K x qual st f fd) (S : FnScope N ps (defScope st)) (hN : ps.length = 2) (n : Nat) (hN2 : N.length = n + 2)
    (hg : ∀ (i : Int) (s s' : FS) (k : Int), s.Ok → g i s = .ok k s' → s'.Ok ∧ s'.cells = s.cells ∧ ∃ ρ', body ⟨feedL s, some i :: List.replicate n none⟩ = some (some k, ⟨feedL s', ρ'⟩))
    (hbody : ∀ (cdv : Value) (A : Around) (outer : List Env) (s : Shared) (H : Hp) (E : XK), Room k (A.deeper (envOfC qual (defScope st) s.heap.objs.size f cdv)) →
      SIs (cxOf (L2.CX P w) P w K mg base N qual (defScope st) f cdv A outer s H E) (defBody st) body) :
    FnOk P w K mg base (L2.CX P w) (k + 1) f fd ps (DSp K mg (feedFn g)) := by
  refine F.okX S (fun vs H Q E h => ?_) fun cdv A outer s H vs Q E hr h => ?_
  · obtain ⟨fa, Fz, fs, ds, h1, h2, r, gd⟩ := h
    rcases feedFn_shape g ds fs with q | ⟨i, z, s', rfl, q1, q2⟩
    · rw [q] at gd; exact gd.elim
    · rw [hN, ← r.length]; rfl
  · obtain ⟨fa, Fz, fs, ds, h1, h2, r, gd⟩ := h
    rcases feedFn_shape g ds fs with q | ⟨i, z, s', rfl, q1, q2⟩
    · rw [q] at gd; exact gd.elim
    · rw [q2] at gd
      obtain ⟨t, p, kk⟩ := hbody cdv A outer s H E hr
      refine ⟨t, p, ?_⟩
      cases r with
      | cons r0 r =>
        cases r with
        | cons r1 r =>
          cases r
          cases r1
          cases r0 with
          | feed φ hφ =>
            obtain ⟨f1, ⟨f2, f2'⟩, f3, f4⟩ := h2 φ hφ
            obtain ⟨ok', ce, ρ', hb⟩ := hg i fs s' z f2' q1
            refine kk φ.a φ.c Fz H H _ ⟨feedL fs, some i :: List.replicate n none⟩ _ ⟨h1, fun b o e _ => e, fun b e => e, f1, ⟨_, f3, .cons (.lst f4 ?_) (.cons (.int _) (.cons (.int _) (.cons (.int _) (.cons (.int _) .nil)))), rfl⟩, rfl, fun j m hj => ?_, ?_⟩ ?_
            · rw [f2]
              exact RepL.ints _
            · match j, hj with
              | 0, hj => cases hj; rfl
              | j + 1, hj =>
                simp only [List.getElem?_cons_succ] at hj
                rw [List.getElem?_replicate] at hj
                split at hj <;> cases hj
            · unfold L2.start
              simp [hN2]
            · rw [hb]
              rintro σ' H' J
              obtain ⟨us, g4, g5, g6⟩ := J.at_
              have ex : Ext fa Fz H Fz H' := ⟨Same.refl _, J.le, fun b o e nb => J.hh b o e fun z => nb φ hφ z.symm, fun _ _ => rfl, J.al⟩
              refine gd (.int z) Fz H' ex (fun φ' e => ?_) (.int z)
              have : φ' = φ := by rw [hφ] at e; cases e; rfl
              subst this
              refine ⟨f1, ⟨by rw [ce]; exact f2, ok'⟩, ?_, f4⟩
              rw [g4]
              -- the feed's items
              cases g5 with
              | cons a1 g5 =>
                cases g5 with
                | cons a2 g5 =>
                  cases g5 with
                  | cons a3 g5 =>
                    cases g5 with
                    | cons a4 g5 =>
                      cases g5 with
                      | cons a5 g5 =>
                        cases g5
                        cases a2
                        cases a3
                        cases a4
                        cases a5
                        cases g6
                        rfl
end DL

set_option Elab.async false
set_option linter.all false
set_option maxRecDepth 100000
set_option maxHeartbeats 2000000
/-! The data layer: repr, calls of defs, a law. -/
namespace DL
open PySem PySem.Spec PyProof.Rows L2

section
variable {X : Cx} {fa : Option FA} {W : L2.St → XK} {Wc : XK} {a b c e o : Expr} {es rest : List Expr} {pos p apos cpos : Pos} {f1 f2 f3 : Env' → M D} {fl : Env' → M (List D)} {st : Stmt} {sts : List Stmt}
/-! ### what is not reached -/
def gBad : Sts → M (Fl × Sts) := fun _ => M.bad
def dBad : Env' → M D := fun _ => M.bad
theorem sj_never : SJ X fa Wc st gBad := ⟨_, ps_never, fun B F0 H0 F H A σ ρ s Dn S h => h.elim⟩
theorem ssj_never : SSJ X fa Wc sts gBad := ⟨_, pss_never, fun B F0 H0 F H A σ ρ s Dn S h => h.elim⟩
theorem ed_never : ED X fa W e dBad := ⟨fun _ _ _ => False, ⟨fun pins s σ H Q I h => h.elim⟩, fun σ F H ρ s Q h1 h2 h3 h => h⟩

/-! ### repr -/
def reprD : List D → Option D
  | [.int i] => if i.natAbs.log2 < 1920 then some (.str (toString i)) else none
  | [.str x] => if (reprText x).length ≤ sizeLine then some (.str (reprText x)) else none
  | [.bl b] => some (.str (if b then "True" else "False"))
  | [.non] => some (.str "None")
  | _ => none
def rRepr : List V → Hp → VK → Prop := fun xs H Q => (∃ i : Int, xs = [.int i] ∧ i.natAbs.log2 < 1920 ∧ Q (.str (toString i)) H) ∨ (∃ x, xs = [.str x] ∧ (reprText x).length ≤ sizeLine ∧ Q (.str (reprText x)) H) ∨ (∃ b : Bool, xs = [.bl b] ∧ Q (.str (if b then "True" else "False")) H) ∨ (xs = [.non] ∧ Q (.str "None") H)
theorem cr_repr : CallR X (.builtin "repr") rRepr := by
  intro pins s σ H xs us Q I r h
  rcases h with ⟨i, rfl, hz, q⟩ | ⟨x, rfl, hz, q⟩ | ⟨k, rfl, q⟩ | ⟨rfl, q⟩
  · cases r with
    | cons r rr =>
      cases rr
      obtain ⟨t, rfl⟩ := r
      exact PySem.P.repr_of_int hz ⟨.str _, H, I.tok _, ⟨_, rfl⟩, q⟩
  · cases r with
    | cons r rr =>
      cases rr
      obtain ⟨t, rfl⟩ := r
      exact PySem.P.repr_of_str ⟨.str _, H, I.tok _, ⟨_, rfl⟩, q⟩ hz
  · cases r with
    | cons r rr =>
      cases rr
      cases r
      exact PySem.P.repr_of_bool ⟨.str _, H, I.tok _, ⟨_, rfl⟩, q⟩
  · cases r with
    | cons r rr =>
      cases rr
      cases r
      exact PySem.P.repr_of_none ⟨.str _, H, I.tok _, ⟨_, rfl⟩, q⟩
theorem ok_repr : CallOk X fa rRepr reprD := by
  intro F H s xs as Q h1 h2 r h
  cases r with
  | nil => exact h.elim
  | cons r t =>
    cases t with
    | cons _ _ => cases r <;> exact h.elim
    | nil =>
      cases r with
      | int i =>
        by_cases hl : i.natAbs.log2 < 1920
        · rw [show reprD [.int i] = some (.str (toString i)) from if_pos hl] at h
          exact .inl ⟨i, rfl, hl, GoodO.here h1 h2 (.str _) h⟩
        · rw [show reprD [.int i] = none from if_neg hl] at h
          exact h.elim
      | str x =>
        by_cases hl : (reprText x).length ≤ sizeLine
        · rw [show reprD [.str x] = some (.str (reprText x)) from if_pos hl] at h
          exact .inr (.inl ⟨x, rfl, hl, GoodO.here h1 h2 (.str _) h⟩)
        · rw [show reprD [.str x] = none from if_neg hl] at h
          exact h.elim
      | bl k => exact .inr (.inr (.inl ⟨k, rfl, GoodO.here h1 h2 (.str _) h⟩))
      | non => exact .inr (.inr (.inr ⟨rfl, GoodO.here h1 h2 (.str _) h⟩))
      | _ => exact h.elim
end

/-! ### calls of defs -/
/-- the module's name x is a def at level k that computes g -/
structure Cal (P : Program) (w : World) (K : PySem.W.Frag) (mg : Str → Option Value) (base : Heap) (k : Nat) (x : Str) (ps : List Str) (g : List D → M D) : Prop where
  ex : ∃ f fd, FnOk P w K mg base (L2.CX P w) k f fd ps (DSp K mg g) ∧ mg x = some (.ref f) ∧ PySem.W.keepIn K (.ref f) = true ∧ Binds K fd ps []
/-- a def of the text stands there -/
structure Dff (K : PySem.W.Frag) (mg : Str → Option Value) (x : Str) (ps : List Str) (st : Stmt) : Prop where
  ex : ∃ f fd, Fun K x x st f fd ∧ mg x = some (.ref f) ∧ Binds K fd ps []
section
variable {X : Cx} {fa : Option FA} {W : L2.St → XK} {e : Expr} {es : List Expr} {pos p : Pos} {fl : Env' → M (List D)}
theorem ed_cal {k : Nat} {ps : List Str} {g : List D → M D} {x : Str} (C : Cal X.prog X.w X.K X.mg X.base k x ps g) (hr : Room k X.A) (hx : ∀ σ, PassesAt (L2.CX X.prog X.w) X σ (W σ)) (ha : LD X fa W (e :: es) fl) (hg : Gl X x := by rfl) (hdb : (x == ("__debug__" : Str)) = false := by decide)
    (he : starEach (e :: es) X.env = (false, eval e X.env) :: starEach es X.env := by rfl) (hpl : (backTo pos (starEach es X.env)).any (·.1) = false := by rfl) : ED X fa W (.Call (.Name x p) (e :: es) [] pos) (dCall g fl) := by
  obtain ⟨f, fd, F, hm, hk, hb⟩ := C.ex
  exact ed_call F hr hm hk hb hx ha hg hdb he hpl
variable {P : Program} {w : World} {K : PySem.W.Frag} {mg : Str → Option Value} {base : Heap}
/-- no argument -/
theorem ed_cal0 {k : Nat} {g : List D → M D} {x : Str} (C : Cal X.prog X.w X.K X.mg X.base k x [] g) (hr : Room k X.A) (hx : Passes (L2.CX X.prog X.w) X (fun _ _ _ => False)) (hg : Gl X x := by rfl) (hdb : (x == ("__debug__" : Str)) = false := by decide) : ED X fa W (.Call (.Name x p) [] [] pos) (fun _ => M.quiet (g [])) := by
  obtain ⟨f, fd, F, hm, hk, hb⟩ := C.ex
  refine ⟨_, pe_call0 F hr hg hm hk hb .nil hx hdb, fun σ F H ρ s Q h1 h2 h3 h => ?_⟩
  unfold M.quiet at h
  dsimp only at h
  refine ⟨fa, F, s, [], h1, h2, .nil, ?_⟩
  cases q : g [] s with
  | bad => rw [q] at h; exact h
  | err e s' => rw [q] at h; exact h.elim
  | ok d s' => rw [q] at h; exact h
theorem cal_of {x : Str} {ps : List Str} {st : Stmt} {k : Nat} {g : List D → M D} (D0 : Dff K mg x ps st) (h : ∀ f fd, Fun K x x st f fd → FnOk P w K mg base (L2.CX P w) k f fd ps (DSp K mg g)) : Cal P w K mg base k x ps g := by
  obtain ⟨f, fd, F, hm, hb⟩ := D0.ex
  exact ⟨f, fd, h f fd F, hm, F.kp, hb⟩
theorem Cal.mono {x : Str} {ps : List Str} {j k : Nat} {g : List D → M D} (C : Cal P w K mg base j x ps g) (h : j ≤ k) : Cal P w K mg base k x ps g := by
  obtain ⟨f, fd, F, hm, hk, hb⟩ := C.ex
  exact ⟨f, fd, F.mono h, hm, hk, hb⟩
/-- nothing is promised -/
theorem cal_bad {x : Str} {ps : List Str} {st : Stmt} (D0 : Dff K mg x ps st) (k : Nat) : Cal P w K mg base k x ps (fun _ => M.bad) := by
  obtain ⟨f, fd, F, hm, hb⟩ := D0.ex
  refine ⟨f, fd, ⟨fun vs H Q E h => ?_, fun A outer s H args us vs Q E _ _ _ _ h => ?_⟩, hm, F.kp, hb⟩
  · obtain ⟨_, _, _, _, _, _, _, g⟩ := h
    exact g.elim
  · obtain ⟨_, _, _, _, _, _, _, g⟩ := h
    exact g.elim
theorem dff_mk {x : Str} {ps : List Str} {st : Stmt} {f : Addr} {oc : Value} {od an : Option Addr} {osl : Array (Option Value)} {kV doc pm cdv ct : Value} {h : Heap} (X : K.In h) (G : h.Ns mainGlobals mg)
    (a : PySem.W.nsIn K mainGlobals x = some (some (.ref f))) (l : K.lookup f = some ⟨oc, od, .func (PySem.W.fnOf x x (defArgs st) (defBody st) (defScope st) .none kV doc pm an cdv ct), osl⟩) (c : PySem.W.codeIn K cdv x = true) (kp : PySem.W.keepIn K (.ref f) = true)
    (hb : ∀ (kV doc pm : Value) (an : Option Addr) (cdv ct : Value) (us : List Value), us.length = ps.length → bindArgs (PySem.W.fnOf x x (defArgs st) (defBody st) (defScope st) .none kV doc pm an cdv ct) ⟨us, []⟩ = pure (ps.zip us)) : Dff K mg x ps st := by
  have F := fun_mk (st := st) l c kp
  exact ⟨f, _, F, PySem.W.mg_of X G a, F.binds hb⟩

/-! ### the law -/
theorem fn_cx0 {x qual : Str} {st : Stmt} {f : Addr} {fd : FuncData} {ps : List Str} {k : Nat} {sp : Sp} (F : FnOk P w K mg base (L2.CX P w) k f fd ps sp) (hE : ∀ vs H Q E E', sp vs H Q E → sp vs H Q E') : FnOk P w K mg base CX0 k f fd ps sp := by
  refine ⟨F.len, fun A outer s H args us vs Q E hr e0 hb r h => ?_⟩
  refine codeAny_mono (F.run A outer s H args us vs Q (fun _ _ _ => False) hr e0 hb r (hE _ _ _ _ _ h)) fun r s' hq => ?_
  cases r with
  | ok fl => cases fl <;> exact hq
  | error e =>
    obtain ⟨_, _, _, _, _, _, _, _, _, _, _, _, z⟩ := hq
    exact z
def spLaw (K : PySem.W.Frag) : Sp := fun vs H Q _ => ∃ (a : Addr) (ns : List Int), vs = [.ref a] ∧ SqL K H a (ns.map V.int) ∧ ns.length ≤ 63 ∧ ∀ H', Q (.bl true) H'
def stirOf (ns : List Int) : Int := ns.foldl (fun st c => (st * 40961 + c % 2147483029 + 77) % 2147483477) 10019
/-- the feed at its start -/
def fs1 (ns : List Int) : FS := ⟨ns, 0, 0, 0, stirOf ns⟩
theorem stir_ok (ns : List Int) : 0 ≤ stirOf ns ∧ stirOf ns < 2147483477 := by
  unfold stirOf
  have h : ∀ (l : List Int) (a : Int), (0 ≤ a ∧ a < 2147483477) → 0 ≤ l.foldl (fun st c => (st * 40961 + c % 2147483029 + 77) % 2147483477) a ∧ l.foldl (fun st c => (st * 40961 + c % 2147483029 + 77) % 2147483477) a < 2147483477 := by
    intro l
    induction l with
    | nil => exact fun a h => h
    | cons c r ih =>
      intro a h
      exact ih _ ⟨Int.emod_nonneg _ (by decide), Int.emod_lt_of_pos _ (by decide)⟩
  exact h ns _ (by decide)
theorem fn_law {st st0 : Stmt} {sts : List Stmt} {f : Addr} {fd : FuncData} {N : List Str} {k n : Nat} {ff : List D → M D} {g : Sts → M (Fl × Sts)} (F : Fun K "law" "law" st f fd) (S : FnScope N ["_law_script"] (defScope st)) (hN : N.length = n + 2) (hst : defBody st = st0 :: sts)
    (h0 : ∀ (cdv : Value) (A : Around) (outer : List Env) (s : Shared) (H : Hp) (E : XK), Room k (A.deeper (envOfC "law" (defScope st) s.heap.objs.size f cdv)) →
      SJ (cxOf (L2.CX P w) P w K mg base N "law" (defScope st) f cdv A outer s H E) none E st0 (gSet 1 (vMask (dCall ff (lCons (dVar 0) lNil)))))
    (hff : ∀ ns s, ns.length ≤ 63 → ff [.scr ns] s = .ok (.lst (feedL (fs1 ns))) s)
    (hbody : ∀ (cdv : Value) (A : Around) (outer : List Env) (s : Shared) (H : Hp) (E : XK) (fa : Option FA), Room k (A.deeper (envOfC "law" (defScope st) s.heap.objs.size f cdv)) →
      SSJ (cxOf (L2.CX P w) P w K mg base N "law" (defScope st) f cdv A outer s H E) fa E sts g)
    (hg : ∀ ns : List Int, ns.length ≤ 63 → ∃ ρ' s', g (.no :: .d .feed :: List.replicate n .no) (fs1 ns) = .ok (.rt (.bl true), ρ') s') :
    FnOk P w K mg base CX0 (k + 1) f fd ["_law_script"] (spLaw K) := by
  refine fn_cx0 (x := "law") (qual := "law") (st := st) ?_ fun vs H Q E E' h => h
  refine F.okX S (fun vs H Q E h => ?_) fun cdv A outer s H vs Q E hr h => ?_
  · obtain ⟨a, ns, rfl, _⟩ := h
    rfl
  · obtain ⟨a, ns, rfl, hS, hl, q⟩ := h
    obtain ⟨t0, p0, k0⟩ := h0 cdv A outer s H E hr
    -- the whole heap is known
    have S0 := SOk.start (K := K) (fa := none) (F := H) (H := H) (s := fs1 ns) (N := N) (ds := [.scr ns]) (vs := [.ref a]) (Same.refl H) (fun φ e => nomatch e) (.cons (.scr hS) .nil) (by rw [hN]; simp)
    -- the rest's reading, for every feed
    have rest : ∀ (φ : FA), ∃ t, PSs (cxOf (L2.CX P w) P w K mg base N "law" (defScope st) f cdv A outer s H E) sts t ∧ SOkT (cxOf (L2.CX P w) P w K mg base N "law" (defScope st) f cdv A outer s H E) (some φ) E t g := fun φ => hbody cdv A outer s H E (some φ) hr
    -- one reading for all
    let tt : TS := fun Dn σ H => ∃ φ, (Classical.choose (rest φ)) Dn σ H
    have ptt : PSs (cxOf (L2.CX P w) P w K mg base N "law" (defScope st) f cdv A outer s H E) sts tt := ⟨fun pins s σ H D I ⟨φ, h⟩ => (Classical.choose_spec (rest φ)).1.run pins s σ H D I h⟩
    refine ⟨tSeq t0 tt, by rw [hst]; exact pss_cons p0 ptt, ?_⟩
    refine k0 H H H H H _ _ _ _ _ S0 ?_
    have e0 : gSet 1 (vMask (dCall ff (lCons (dVar 0) lNil))) ([.d (.scr ns)] ++ List.replicate (N.length - 1) .no) (fs1 ns) = .ok (.nx, .d (.scr ns) :: .d (.lst (feedL (fs1 ns))) :: List.replicate n .no) (fs1 ns) := by
      have e1 : ([EV.d (.scr ns)] ++ List.replicate (N.length - 1) EV.no) = .d (.scr ns) :: .no :: List.replicate n .no := by
        rw [hN]
        rfl
      rw [e1]
      show ((vMask (dCall ff (lCons (dVar 0) lNil)) (.d (.scr ns) :: .no :: List.replicate n .no)).bind _) (fs1 ns) = _
      have e2 : vMask (dCall ff (lCons (dVar 0) lNil)) (.d (.scr ns) :: .no :: List.replicate n .no) (fs1 ns) = .ok (.d (.lst (feedL (fs1 ns))), .d (.scr ns) :: .no :: List.replicate n .no) (fs1 ns) := by
        show ((ff [.scr ns] (fs1 ns)).bnd _) = _
        rw [hff ns _ hl]
        rfl
      show ((vMask (dCall ff (lCons (dVar 0) lNil)) (.d (.scr ns) :: .no :: List.replicate n .no) (fs1 ns)).bnd _) = _
      rw [e2]
      rfl
    show GoodS _ none E H H H (gSet 1 (vMask (dCall ff (lCons (dVar 0) lNil))) ([.d (.scr ns)] ++ List.replicate (N.length - 1) .no) (fs1 ns)) _
    rw [e0]
    intro σ' F' H' A' S'
    have sl := S'.slot 1 _ rfl
    obtain ⟨v, hv, r⟩ := sl
    cases r with
    | @lst p xs vs hp rl =>
      unfold feedL at rl
      cases rl with
      | cons a1 g5 =>
        cases g5 with
        | cons a2 g5 =>
          cases g5 with
          | cons a3 g5 =>
            cases g5 with
            | cons a4 g5 =>
              cases g5 with
              | cons a5 g5 =>
                cases g5
                cases a2
                cases a3
                cases a4
                cases a5
                cases a1 with
                | @lst c _ us hc rc =>
                  obtain rfl := RepL.of_ints rc
                  have hpc : c ≠ p := fun z => by
                    subst z
                    rw [hc] at hp
                    have e : ns.map V.int = _ := HO.lst.inj (Option.some.inj hp)
                    cases ns with
                    | nil => cases e
                    | cons x r => cases e
                  refine ⟨⟨p, c, ns⟩, (Classical.choose_spec (rest ⟨p, c, ns⟩)).2 (fun b => if b = p then none else F' b) (fun b => if b = p then none else F' b) H' (fun b => if b = p then none else F' b) H' (fun _ => 0) σ' (.no :: .d .feed :: List.replicate n .no) (fs1 ns) _ ⟨Ext.refl fun b o e => ?_, Same.refl _, fun φ e => ?_, ?_, fun i ev h => ?_, fun i j ev ev' h h' ho ho' => ?_⟩ ?_⟩
                  · by_cases hb : b = p
                    · rw [if_pos hb] at e; cases e
                    · rw [if_neg hb] at e; exact S'.ext.fh b o e
                  · cases e
                    exact ⟨if_pos rfl, ⟨rfl, (stir_ok ns).1, (stir_ok ns).2, Int.le_refl _, Int.le_refl _⟩, S'.ext.fh _ _ hp, by
                      show (if c = p then none else F' c) = _
                      rw [if_neg hpc]; exact hc⟩
                  · rw [S'.len]; rfl
                  · match i, h with
                    | 0, h => cases h; trivial
                    | 1, h => cases h; exact ⟨_, hv, .feed ⟨p, c, ns⟩ rfl⟩
                    | i + 2, h =>
                      simp only [List.getElem?_cons_succ] at h
                      rw [List.getElem?_replicate] at h
                      split at h
                      · cases h; trivial
                      · cases h
                  · have key : ∀ (m : Nat) u, (EV.no :: .d .feed :: List.replicate n EV.no)[m]? = some u → u.own = true → False := fun m u hm hu => by
                      match m, hm with
                      | 0, hm => cases hm; cases hu
                      | 1, hm => cases hm; cases hu
                      | m + 2, hm =>
                        simp only [List.getElem?_cons_succ] at hm
                        rw [List.getElem?_replicate] at hm
                        split at hm
                        · cases hm; cases hu
                        · cases hm
                    exact (key i ev h ho).elim
                  · obtain ⟨ρ', s', e⟩ := hg ns hl
                    rw [e]
                    intro v F2 H2 _ _ r2 _
                    cases r2
                    exact q H2
end
end DL

namespace DL
open PySem PySem.Spec PyProof.Rows L2
/-! ### a few more forms -/
def dNew (f : Env' → M (List D)) : Env' → M D := fun ρ => (f ρ).bind fun xs => M.pure (.lst xs)
def anyD' (x : D) : Option (List D) := match x with
  | .str z => some (z.cps.toList.map fun c => .str ⟨#[c]⟩)
  | x => seqD x
def iAny (f : Env' → M D) : Env' → M (List D) := fun ρ => (f ρ).bind fun x => M.lift (anyD' x)
section
variable {X : Cx} {fa : Option FA} {W : L2.St → XK} {Wc : XK} {tg a b c e o : Expr} {es rest : List Expr} {pos p apos cpos : Pos} {f1 f2 f3 : Env' → M D} {fl : Env' → M (List D)}
/-- a list, a tuple, a text -/
theorem ij_any (h : ED X fa W e f1) : IJ X fa W tg e (iAny f1) := by
  obtain ⟨wi, p1, k1⟩ := ij_seq (tg := tg) h
  obtain ⟨wi2, p2, k2⟩ := ij_text (tg := tg) h
  refine ⟨_, PI.or p1 p2, fun σ F H ρ s R h1 h2 h3 hg => ?_⟩
  change GoodI X fa (W σ) F H ((f1 ρ s).bnd _) R at hg
  cases q : f1 ρ s with
  | bad => rw [q] at hg; exact hg.elim
  | err x s' =>
    refine .inl (k1 σ F H ρ s R h1 h2 h3 ?_)
    show GoodI X fa (W σ) F H ((f1 ρ s).bnd _) R
    rw [q] at hg ⊢
    exact hg
  | ok x s' =>
    rw [q] at hg
    cases x with
    | str z =>
      refine .inr (k2 σ F H ρ s R h1 h2 h3 ?_)
      show GoodI X fa (W σ) F H ((f1 ρ s).bnd _) R
      rw [q]
      exact hg
    | _ =>
      refine .inl (k1 σ F H ρ s R h1 h2 h3 ?_)
      show GoodI X fa (W σ) F H ((f1 ρ s).bnd _) R
      rw [q]
      exact hg
def listN : List D → Option (List D)
  | [.lst xs] => some xs
  | [.tup xs] => some xs
  | _ => none
/-- list(x), new -/
theorem nd_list {x : Str} (hm : X.mg x = none) (ha : LD X fa W [e] fl) (hv : bootBuiltins x = some (.type "list") := by decide +kernel) (hg : Gl X x := by rfl) (hn : x ≠ "__name__" := by decide) (hdb : (x == ("__debug__" : Str)) = false := by decide) (he : starEach [e] X.env = (false, eval e X.env) :: starEach [] X.env := by rfl) (hpl : (backTo pos (starEach [] X.env)).any (·.1) = false := by rfl) :
    ND X fa W (.Call (.Name x p) [e] [] pos) (fun ρ => (fl ρ).bind fun xs => M.lift (listN xs)) := by
  obtain ⟨ta, pa, ka⟩ := ha
  refine ⟨_, pe_callTy call_list_of hg hm hv pa hn hdb he hpl, fun σ F H ρ s Q h1 h2 h3 h => ?_⟩
  refine ka.then GoodN.tgt h1 h2 h3 h fun xs s1 vs F1 H1 e1 o1 r1 v1 h' => ?_
  have part : ∀ (q : Addr) (us : List V) (ds : List D), (SqL X.K H1 q us ∨ SqT X.K H1 q us) → RepL X.K fa F1 ds us → vs = [.ref q] → GoodN X fa (W σ) F1 H1 (.ok ds s1) Q → ∃ p ys, vs = [.ref p] ∧ (SqL X.K H1 p ys ∨ SqT X.K H1 p ys) ∧ ∀ l, H1 l = none → Q (.ref l) (upd H1 l (.lst ys)) := fun q us ds hs rl hv hg => by
    refine ⟨q, us, hv, hs, fun l hl => ?_⟩
    have fl : F1 l = none := Same.free e1.fh hl
    refine hg l us F1 (upd H1 l (.lst us)) ⟨Same.refl _, fun b u z => ?_, fun b u z _ => ?_, fun _ _ => rfl, fun b z => ?_⟩ (o1.ext_same (Same.refl _) (fun b u z => by rw [upd_ne (ne_of_none z hl)]; exact z) fun _ _ => rfl) hl fl upd_same rl
    · rw [upd_ne (ne_of_none z fl)]; exact e1.fh b u z
    · rw [upd_ne (ne_of_none z hl)]; exact z
    · have : b ≠ l := fun q => z (q ▸ hl)
      rw [upd_ne this]; exact z
  cases r1 with
  | nil => exact h'.elim
  | cons r t =>
    cases t with
    | cons _ _ => cases r <;> exact h'.elim
    | nil =>
      cases r with
      | lst hq r => exact part _ _ _ (.inl (SqL.of (e1.fh _ _ hq))) r rfl h'
      | tup hq r => exact part _ _ _ (.inr (same_seqT e1.fh hq)) r rfl h'
      | _ => exact h'.elim
end
end DL

namespace DL
open PySem PySem.Spec PyProof.Rows L2
/-- a method of a value of one type -/
def dMtT (T : String) (g : D → List D → Option D) (f1 : Env' → M D) (fl : Env' → M (List D)) : Env' → M D := fun ρ => (f1 ρ).bind fun x => if tyD x = some T then (fl ρ).bind fun xs => M.lift (g x xs) else M.bad
theorem ht_index : ∀ d as, indexD d as ≠ none → tyD d = some "list" := by
  intro d as h
  cases d with
  | lst xs => rfl
  | _ => exact absurd rfl h
/-! ### the draw -/
def drawM (n : Int) : M Int := fun s =>
  if 0 < n ∧ n < 1073741824 then
    let s := { s with cnt := s.cnt + 1 }
    let s := if s.rest = 0 ∧ s.at_ < s.cells.length then
        match s.cells[s.at_.toNat]? with
        | some c => if 1000000000000000000 ≤ c then { s with at_ := s.at_ + 1, rest := c } else { s with at_ := s.at_ + 1, stir := (s.stir * 30203 + c % 2147483029 * 611 + 53) % 2147483477 }
        | none => s
      else s
    if 0 < s.rest then .ok (s.rest % n) { s with rest := s.rest / n }
    else
      let late := s.stir * s.stir + s.stir * 20011 + s.cnt * 1299721 + 40009
      let st := late % 2147483477
      .ok ((st / 97 + st % 6007 * 71) % n) { s with stir := st }
  else .bad
section
variable {g g' : DS → Option (Option Int × DS)} {d d' : DS} {k : Int} {c : Env' → M Bool}
theorem hSeq_nx (h : g d = some (none, d')) : hSeq g g' d = g' d' := by
  unfold hSeq; rw [h]; rfl
theorem hSeq_rt (h : g d = some (some k, d')) : hSeq g g' d = some (some k, d') := by
  unfold hSeq; rw [h]; rfl
theorem hIf_t (h : boolOf c d = some true) : hIf c g g' d = g d := by
  unfold hIf; rw [h]; rfl
theorem hIf_f (h : boolOf c d = some false) : hIf c g g' d = g' d := by
  unfold hIf; rw [h]; rfl
theorem hSet_eq {i : Nat} {f : Env' → M D} {n : Int} (h : numOf f d = some n) : hSet i f d = some (none, ⟨d.L, d.ρ.set i (some n)⟩) := by
  unfold hSet; rw [h]; rfl
theorem hStore_eq {f : Env' → M D} {n j : Int} {m : Nat} (h : numOf f d = some n) (hj : ixN d.L.length j = some m) : hStore f j d = some (none, ⟨d.L.set m (.int n), d.ρ⟩) := by
  unfold hStore; rw [h]; show (ixN d.L.length j).map _ = _; rw [hj]; rfl
theorem hRet_eq {f : Env' → M D} {n : Int} (h : numOf f d = some n) : hRet f d = some (some n, d) := by
  unfold hRet; rw [h]; rfl
end
end DL

set_option Elab.async false
set_option linter.all false
set_option maxRecDepth 100000
set_option maxHeartbeats 2000000
/-! The data layer: the draw. -/
namespace DL
open PySem PySem.Spec PyProof.Rows L2
def hD3 : DS → Option (Option Int × DS) :=
    (hSeq (hSet 3 (dOp ixD (dVar 0) (dC (.int 4))))
    (hSeq (hSet 3 (dOp addD (dOp addD (dOp addD (dOp mulD (dVar 4) (dVar 4)) (dOp mulD (dVar 4) (dC (.int 20011)))) (dOp mulD (dOp ixD (dVar 0) (dC (.int 3))) (dC (.int 1299721)))) (dC (.int 40009))))
    (hSeq (hStore (dOp modD (dFn intF (lCons (dVar 4) lNil)) (dC (.int 2147483477))) 4)
    (hRet (dOp modD (dFn intF (lCons (dOp addD (dOp fdivD (dOp ixD (dVar 0) (dC (.int 4))) (dC (.int 97))) (dOp mulD (dOp modD (dFn intF (lCons (dOp ixD (dVar 0) (dC (.int 4))) lNil)) (dC (.int 6007))) (dC (.int 71)))) lNil)) (dVar 1))))))
def hD2 : DS → Option (Option Int × DS) :=
    (hSeq (hIf (cCmp gtD (dOp ixD (dVar 0) (dC (.int 2))) (dC (.int 0))) (hSeq (hSet 2 (dOp modD (dFn intF (lCons (dOp ixD (dVar 0) (dC (.int 2))) lNil)) (dVar 1)))
    (hSeq (hStore (dOp fdivD (dOp ixD (dVar 0) (dC (.int 2))) (dVar 1)) 2)
    (hRet (dVar 3)))) hNext) hD3)
def hD1 : DS → Option (Option Int × DS) :=
    (hIf (cAnd (cCmp eqD (dOp ixD (dVar 0) (dC (.int 2))) (dC (.int 0))) (cCmp ltD (dOp ixD (dVar 0) (dC (.int 1))) (dFn lenD (lCons (dOp ixD (dVar 0) (dC (.int 0))) lNil)))) (hSeq (hSet 1 (dOp ixD (dOp ixD (dVar 0) (dC (.int 0))) (dOp ixD (dVar 0) (dC (.int 1)))))
    (hSeq (hStore (dOp addD (dOp ixD (dVar 0) (dC (.int 1))) (dC (.int 1))) 1)
    (hIf (cCmp geD (dVar 2) (dOp powD (dC (.int 10)) (dC (.int 18)))) (hStore (dVar 2) 2) (hStore (dOp modD (dFn intF (lCons (dOp addD (dOp addD (dOp mulD (dOp ixD (dVar 0) (dC (.int 4))) (dC (.int 30203))) (dOp mulD (dOp modD (dFn intF (lCons (dVar 2) lNil)) (dC (.int 2147483029))) (dC (.int 611)))) (dC (.int 53))) lNil)) (dC (.int 2147483477))) 4)))) hNext)
def hDraw : DS → Option (Option Int × DS) :=
  (hSeq (hStore (dOp addD (dOp ixD (dVar 0) (dC (.int 3))) (dC (.int 1))) 3) (hSeq hD1 hD2))
section
variable {d : DS} {f f1 f2 : Env' → M D} {a b r : Int} {g : D → D → Option D} {c1 c2 : Env' → M Bool} {k : Bool}
theorem num_op (h1 : numOf f1 d = some a) (h2 : numOf f2 d = some b) (hg : g (.int a) (.int b) = some (.int r)) : numOf (dOp g f1 f2) d = some r := by
  unfold numOf dOp
  show (match ((f1 d.env fs0).bnd _ : Res D) with | .ok (.int n) ⟨[], 0, 0, 0, 0⟩ => some n | _ => none) = _
  rw [numOf_eq h1]
  show (match ((f2 d.env fs0).bnd _ : Res D) with | .ok (.int n) ⟨[], 0, 0, 0, 0⟩ => some n | _ => none) = _
  rw [numOf_eq h2]
  show (match (M.lift (g (.int a) (.int b)) fs0 : Res D) with | .ok (.int n) ⟨[], 0, 0, 0, 0⟩ => some n | _ => none) = _
  rw [hg]
  rfl
theorem num_mod (h1 : numOf f1 d = some a) (h2 : numOf f2 d = some b) (h : 0 < b) : numOf (dOp modD f1 f2) d = some (a % b) := num_op h1 h2 (if_pos h)
theorem num_fdiv (h1 : numOf f1 d = some a) (h2 : numOf f2 d = some b) (h : 0 < b ∧ b < 1073741824) : numOf (dOp fdivD f1 f2) d = some (a / b) := num_op h1 h2 (if_pos h)
theorem num_mul (h1 : numOf f1 d = some a) (h2 : numOf f2 d = some b) (h : (-(2 ^ 64) < a ∧ a < 2 ^ 64) ∨ (-(2 ^ 64) < b ∧ b < 2 ^ 64)) : numOf (dOp mulD f1 f2) d = some (a * b) := num_op h1 h2 (if_pos h)
theorem num_add (h1 : numOf f1 d = some a) (h2 : numOf f2 d = some b) : numOf (dOp addD f1 f2) d = some (a + b) := num_op h1 h2 rfl
theorem num_int (h1 : numOf f d = some a) : numOf (dFn intF (lCons f lNil)) d = some a := by
  unfold numOf dFn
  show (match (((f d.env fs0).bnd _ : Res (List D)).bnd _ : Res D) with | .ok (.int n) ⟨[], 0, 0, 0, 0⟩ => some n | _ => none) = _
  rw [numOf_eq h1]
  rfl
theorem bool_cmp (h1 : numOf f1 d = some a) (h2 : numOf f2 d = some b) (hg : g (.int a) (.int b) = some (.bl k)) : boolOf (cCmp g f1 f2) d = some k := by
  unfold boolOf cCmp
  show (match ((f1 d.env fs0).bnd _ : Res Bool) with | .ok n ⟨[], 0, 0, 0, 0⟩ => some n | _ => none) = _
  rw [numOf_eq h1]
  show (match ((f2 d.env fs0).bnd _ : Res Bool) with | .ok n ⟨[], 0, 0, 0, 0⟩ => some n | _ => none) = _
  rw [numOf_eq h2]
  show (match (((M.lift (g (.int a) (.int b)) fs0).bnd _) : Res Bool) with | .ok n ⟨[], 0, 0, 0, 0⟩ => some n | _ => none) = _
  rw [hg]
  rfl
theorem bool_and (h1 : boolOf c1 d = some true) : boolOf (cAnd c1 c2) d = boolOf c2 d := by
  unfold cAnd
  show (match ((c1 d.env fs0).bnd _ : Res Bool) with | .ok n ⟨[], 0, 0, 0, 0⟩ => some n | _ => none) = _
  rw [boolOf_eq h1]
  rfl
theorem bool_and0 (h1 : boolOf c1 d = some false) : boolOf (cAnd c1 c2) d = some false := by
  unfold cAnd
  show (match ((c1 d.env fs0).bnd _ : Res Bool) with | .ok n ⟨[], 0, 0, 0, 0⟩ => some n | _ => none) = _
  rw [boolOf_eq h1]
  rfl
theorem eqD_int (a b : Int) : eqD (.int a) (.int b) = some (.bl (decide (a = b))) := by
  unfold eqD eqB
  show (if scal (.int a) (.int b) = true then some (decide ((V.int a) = .int b)) else _).map D.bl = _
  rw [if_pos (show scal (.int a) (.int b) = true from rfl)]
  show some (D.bl (decide (V.int a = V.int b))) = _
  congr 2
  by_cases h : a = b
  · subst h; simp
  · simp [h]
end
/-- what the tail of a draw gives -/
def drawT (n : Int) (s : FS) : Int × FS :=
  if 0 < s.rest then (s.rest % n, { s with rest := s.rest / n })
  else (((s.stir * s.stir + s.stir * 20011 + s.cnt * 1299721 + 40009) % 2147483477 / 97 + (s.stir * s.stir + s.stir * 20011 + s.cnt * 1299721 + 40009) % 2147483477 % 6007 * 71) % n, { s with stir := (s.stir * s.stir + s.stir * 20011 + s.cnt * 1299721 + 40009) % 2147483477 })
theorem hD3_runs (n : Int) (s : FS) (o : Option Int) (h : s.Ok) (hn : 0 < n) (hr : ¬ 0 < s.rest) : ∃ ρ', hD3 ⟨feedL s, [some n, o, none, none]⟩ = some (some (drawT n s).1, ⟨feedL (drawT n s).2, ρ'⟩) := by
  unfold hD3
  have hb : (-(2 ^ 64) < s.stir ∧ s.stir < 2 ^ 64) := by
    obtain ⟨h1, h2, _⟩ := h
    constructor <;> omega
  refine ⟨[some n, o, none, some (s.stir * s.stir + s.stir * 20011 + s.cnt * 1299721 + 40009)], ?_⟩
  rw [hSeq_nx (hSet_eq (n := s.stir) rfl)]
  rw [hSeq_nx (hSet_eq (n := s.stir * s.stir + s.stir * 20011 + s.cnt * 1299721 + 40009) (num_add (num_add (num_add (num_mul (a := s.stir) (b := s.stir) rfl rfl (.inl hb)) (num_mul (a := s.stir) (b := 20011) rfl rfl (.inl hb))) (num_mul (a := s.cnt) (b := 1299721) rfl rfl (.inr (by decide)))) rfl))]
  rw [hSeq_nx (hStore_eq (n := (s.stir * s.stir + s.stir * 20011 + s.cnt * 1299721 + 40009) % 2147483477) (m := 4) (num_mod (b := 2147483477) (num_int rfl) rfl (by decide)) rfl)]
  rw [hRet_eq (n := ((s.stir * s.stir + s.stir * 20011 + s.cnt * 1299721 + 40009) % 2147483477 / 97 + (s.stir * s.stir + s.stir * 20011 + s.cnt * 1299721 + 40009) % 2147483477 % 6007 * 71) % n) (num_mod (b := n) (num_int (num_add (num_fdiv (a := (s.stir * s.stir + s.stir * 20011 + s.cnt * 1299721 + 40009) % 2147483477) (b := 97) rfl rfl (by decide)) (num_mul (b := 71) (num_mod (b := 6007) (num_int (a := (s.stir * s.stir + s.stir * 20011 + s.cnt * 1299721 + 40009) % 2147483477) rfl) rfl (by decide)) rfl (.inr (by decide))))) rfl hn)]
  unfold drawT
  rw [if_neg hr]
  rfl
theorem hD2_runs (n : Int) (s : FS) (o : Option Int) (h : s.Ok) (hn : 0 < n) (hn2 : n < 1073741824) : ∃ ρ', hD2 ⟨feedL s, [some n, o, none, none]⟩ = some (some (drawT n s).1, ⟨feedL (drawT n s).2, ρ'⟩) := by
  unfold hD2
  by_cases hr : 0 < s.rest
  · refine ⟨[some n, o, some (s.rest % n), none], ?_⟩
    refine hSeq_rt ?_
    rw [hIf_t (bool_cmp (a := s.rest) (b := 0) rfl rfl (show some (D.bl (decide ((0:Int) < s.rest))) = _ by simp [hr]))]
    rw [hSeq_nx (hSet_eq (n := s.rest % n) (num_mod (a := s.rest) (b := n) (num_int rfl) rfl hn))]
    rw [hSeq_nx (hStore_eq (n := s.rest / n) (m := 2) (num_fdiv (a := s.rest) (b := n) rfl rfl ⟨hn, hn2⟩) rfl)]
    rw [hRet_eq (n := s.rest % n) rfl]
    unfold drawT
    rw [if_pos hr]
    rfl
  · obtain ⟨ρ', e⟩ := hD3_runs n s o h hn hr
    refine ⟨ρ', ?_⟩
    rw [hSeq_nx (d' := ⟨feedL s, [some n, o, none, none]⟩), e]
    rw [hIf_f (bool_cmp (a := s.rest) (b := 0) rfl rfl (show some (D.bl (decide ((0:Int) < s.rest))) = _ by simp [hr]))]
    rfl
def drawH (s : FS) : FS :=
  if s.rest = 0 ∧ s.at_ < s.cells.length then
        match s.cells[s.at_.toNat]? with
        | some c => if 1000000000000000000 ≤ c then { s with at_ := s.at_ + 1, rest := c } else { s with at_ := s.at_ + 1, stir := (s.stir * 30203 + c % 2147483029 * 611 + 53) % 2147483477 }
        | none => s
      else s
theorem drawM_eq (n : Int) (s : FS) (hn : 0 < n) (hn2 : n < 1073741824) : drawM n s = .ok (drawT n (drawH { s with cnt := s.cnt + 1 })).1 (drawT n (drawH { s with cnt := s.cnt + 1 })).2 := by
  show (if 0 < n ∧ n < 1073741824 then (if 0 < (drawH { s with cnt := s.cnt + 1 }).rest then _ else _) else _) = _
  rw [if_pos ⟨hn, hn2⟩]
  unfold drawT
  by_cases h : 0 < (drawH { s with cnt := s.cnt + 1 }).rest
  · rw [if_pos h, if_pos h]; rfl
  · rw [if_neg h, if_neg h]; rfl
theorem drawH_ok (s : FS) (h : s.Ok) : (drawH s).Ok ∧ (drawH s).cells = s.cells := by
  obtain ⟨h1, h2, h3, h4⟩ := h
  unfold drawH
  split
  · split
    · split
      · rename_i c _ h5
        exact ⟨⟨h1, h2, by show 0 ≤ s.at_ + 1; omega, by show 0 ≤ c; omega⟩, rfl⟩
      · exact ⟨⟨Int.emod_nonneg _ (by decide), Int.emod_lt_of_pos _ (by decide), by show 0 ≤ s.at_ + 1; omega, h4⟩, rfl⟩
    · exact ⟨⟨h1, h2, h3, h4⟩, rfl⟩
  · exact ⟨⟨h1, h2, h3, h4⟩, rfl⟩
theorem drawT_ok (n : Int) (s : FS) (hn : 0 < n) (h : s.Ok) : (drawT n s).2.Ok ∧ (drawT n s).2.cells = s.cells ∧ 0 ≤ (drawT n s).1 ∧ (drawT n s).1 < n := by
  obtain ⟨h1, h2, h3, h4⟩ := h
  unfold drawT
  split
  · exact ⟨⟨h1, h2, h3, Int.ediv_nonneg h4 (Int.le_of_lt hn)⟩, rfl, Int.emod_nonneg _ (by omega), Int.emod_lt_of_pos _ hn⟩
  · exact ⟨⟨Int.emod_nonneg _ (by decide), Int.emod_lt_of_pos _ (by decide), h3, h4⟩, rfl, Int.emod_nonneg _ (by omega), Int.emod_lt_of_pos _ hn⟩
theorem hD1_runs (n : Int) (s : FS) (h : s.Ok) : ∃ o, hD1 ⟨feedL s, [some n, none, none, none]⟩ = some (none, ⟨feedL (drawH s), [some n, o, none, none]⟩) := by
  unfold hD1 drawH
  obtain ⟨h1, h2, h3, h4⟩ := h
  have lt : numOf (dFn lenD (lCons (dOp ixD (dVar 0) (dC (.int 0))) lNil)) ⟨feedL s, [some n, none, none, none]⟩ = some s.cells.length := by
    show some ((List.length (s.cells.map D.int) : Nat) : Int) = _
    exact congrArg (fun m : Nat => some (m : Int)) (List.length_map ..)
  by_cases hr : s.rest = 0
  · have b1 : boolOf (cCmp eqD (dOp ixD (dVar 0) (dC (.int 2))) (dC (.int 0))) ⟨feedL s, [some n, none, none, none]⟩ = some true := bool_cmp (a := s.rest) (b := 0) rfl rfl (by rw [eqD_int]; simp [hr])
    by_cases ha : s.at_ < s.cells.length
    · have b2 : boolOf (cCmp ltD (dOp ixD (dVar 0) (dC (.int 1))) (dFn lenD (lCons (dOp ixD (dVar 0) (dC (.int 0))) lNil))) ⟨feedL s, [some n, none, none, none]⟩ = some true := bool_cmp (a := s.at_) rfl lt (show some (D.bl (decide _)) = _ by simp [ha])
      obtain ⟨c, hc⟩ : ∃ c, s.cells[s.at_.toNat]? = some c := ⟨_, List.getElem?_eq_getElem (by omega)⟩
      have hix : ixD (.lst (s.cells.map D.int)) (.int s.at_) = some (.int c) := by
        show atI (s.cells.map D.int) s.at_ = _
        unfold atI ixN
        rw [if_pos h3, if_pos (by rw [List.length_map]; exact ha)]
        show (s.cells.map D.int)[s.at_.toNat]? = _
        rw [List.getElem?_map, hc]
        rfl
      have nc : numOf (dOp ixD (dOp ixD (dVar 0) (dC (.int 0))) (dOp ixD (dVar 0) (dC (.int 1)))) ⟨feedL s, [some n, none, none, none]⟩ = some c := by
        show (match (M.lift (ixD (.lst (s.cells.map D.int)) (.int s.at_)) fs0 : Res D) with | .ok (.int n) ⟨[], 0, 0, 0, 0⟩ => some n | _ => none) = _
        rw [hix]
        rfl
      rw [if_pos ⟨hr, ha⟩, hc]
      refine ⟨some c, ?_⟩
      rw [hIf_t ((bool_and b1).trans b2), hSeq_nx (hSet_eq nc), hSeq_nx (hStore_eq (n := s.at_ + 1) (m := 1) rfl rfl)]
      show hIf _ _ _ _ = some (none, ⟨feedL (if _ then _ else _), _⟩)
      by_cases h18 : 1000000000000000000 ≤ c
      · rw [if_pos h18, hIf_t (bool_cmp (a := c) (b := 1000000000000000000) rfl rfl (show some (D.bl (decide _)) = _ by simp [h18])), hStore_eq (n := c) (m := 2) rfl rfl]
        rfl
      · rw [if_neg h18, hIf_f (bool_cmp (a := c) (b := 1000000000000000000) rfl rfl (show some (D.bl (decide _)) = _ by simp [h18]))]
        have e1 : numOf (dOp modD (dFn intF (lCons (dOp addD (dOp addD (dOp mulD (dOp ixD (dVar 0) (dC (.int 4))) (dC (.int 30203))) (dOp mulD (dOp modD (dFn intF (lCons (dVar 2) lNil)) (dC (.int 2147483029))) (dC (.int 611)))) (dC (.int 53))) lNil)) (dC (.int 2147483477))) (⟨[.lst (s.cells.map D.int), .int (s.at_ + 1), .int s.rest, .int s.cnt, .int s.stir], [some n, some c, none, none]⟩) = some ((s.stir * 30203 + c % 2147483029 * 611 + 53) % 2147483477) :=
          num_mod (b := 2147483477) (num_int (num_add (num_add (num_mul (a := s.stir) (b := 30203) rfl rfl (.inr (by decide))) (num_mul (b := 611) (num_mod (b := 2147483029) (num_int (a := c) rfl) rfl (by decide)) rfl (.inr (by decide)))) rfl)) rfl (by decide)
        exact hStore_eq e1 (m := 4) rfl
    · have b2 : boolOf (cCmp ltD (dOp ixD (dVar 0) (dC (.int 1))) (dFn lenD (lCons (dOp ixD (dVar 0) (dC (.int 0))) lNil))) ⟨feedL s, [some n, none, none, none]⟩ = some false := bool_cmp (a := s.at_) rfl lt (show some (D.bl (decide _)) = _ by simp [ha])
      rw [if_neg fun z => ha z.2]
      refine ⟨none, ?_⟩
      rw [hIf_f ((bool_and b1).trans b2)]
      rfl
  · have b1 : boolOf (cCmp eqD (dOp ixD (dVar 0) (dC (.int 2))) (dC (.int 0))) ⟨feedL s, [some n, none, none, none]⟩ = some false := bool_cmp (a := s.rest) (b := 0) rfl rfl (by rw [eqD_int]; simp [hr])
    rw [if_neg fun z => hr z.1]
    refine ⟨none, ?_⟩
    rw [hIf_f (bool_and0 b1)]
    rfl
theorem hDraw_runs (i : Int) (s s' : FS) (k : Int) (h : s.Ok) (e : drawM i s = .ok k s') : s'.Ok ∧ s'.cells = s.cells ∧ ∃ ρ', hDraw ⟨feedL s, some i :: List.replicate 3 none⟩ = some (some k, ⟨feedL s', ρ'⟩) := by
  by_cases hi : 0 < i ∧ i < 1073741824
  · rw [drawM_eq i s hi.1 hi.2] at e
    have h0 : ({ s with cnt := s.cnt + 1 } : FS).Ok := h
    obtain ⟨k1, k2⟩ := drawH_ok _ h0
    obtain ⟨k3, k4, _, _⟩ := drawT_ok i _ hi.1 k1
    injection e with e1 e2
    subst e1 e2
    refine ⟨k3, k4.trans k2, ?_⟩
    obtain ⟨o, p1⟩ := hD1_runs i _ h0
    obtain ⟨ρ', p2⟩ := hD2_runs i _ o k1 hi.1 hi.2
    refine ⟨ρ', ?_⟩
    unfold hDraw
    rw [hSeq_nx (hStore_eq (n := s.cnt + 1) (m := 3) rfl rfl)]
    exact (hSeq_nx p1).trans p2
  · have : drawM i s = .bad := if_neg hi
    rw [this] at e
    cases e
/-- a draw gives a number -/
theorem drawM_some {n : Int} (hn : 0 < n) (hn2 : n < 1073741824) (s : FS) (h : s.Ok) : ∃ k s', drawM n s = .ok k s' ∧ s'.Ok ∧ s'.cells = s.cells ∧ 0 ≤ k ∧ k < n := by
  have h0 : ({ s with cnt := s.cnt + 1 } : FS).Ok := h
  obtain ⟨k1, k2⟩ := drawH_ok _ h0
  obtain ⟨k3, k4, k5, k6⟩ := drawT_ok n _ hn k1
  exact ⟨_, _, drawM_eq n s hn hn2, k3, k4.trans k2, k5, k6⟩
end DL

set_option Elab.async false
set_option linter.all false
set_option maxRecDepth 100000
set_option maxHeartbeats 2000000
/-! The data layer: how what a text computes is told, step by step. -/
namespace DL
open PySem PySem.Spec PyProof.Rows L2
/-- m ends well, with Q -/
structure Rm {α : Type} (m : M α) (s : FS) (Q : α → FS → Prop) : Prop where
  ends : match m s with
  | .ok a s' => Q a s'
  | _ => False
def seqK (g : Sts → M (Fl × Sts)) (p : Fl × Sts) : M (Fl × Sts) := match p.1 with
  | .nx => g p.2
  | _ => M.pure p
def runK (p : Fl × Sts) : M D := match p.1 with
    | .nx => M.pure .non
    | .rt d => M.pure d
    | _ => M.bad
namespace Rm
section
variable {α β : Type} {m : M α} {s s' : FS} {Q R : α → FS → Prop} {a : α} {o : Option α}
theorem eq (h : m s = .ok a s') (q : Q a s') : Rm m s Q := ⟨by rw [h]; exact q⟩
theorem out (h : Rm m s Q) : ∃ a s', m s = .ok a s' ∧ Q a s' := by
  obtain ⟨h⟩ := h
  split at h
  · exact ⟨_, _, by assumption, h⟩
  · exact h.elim
theorem mono (h : Rm m s Q) (k : ∀ a s', Q a s' → R a s') : Rm m s R := by
  obtain ⟨a, s', e, q⟩ := h.out
  exact eq e (k a s' q)
theorem det (h : Rm m s fun b s' => b = a ∧ s' = s) : m s = .ok a s := by
  obtain ⟨b, s', e, rfl, rfl⟩ := h.out
  exact e
theorem bind {f : α → M β} {Q : β → FS → Prop} (h : Rm m s fun a s' => Rm (f a) s' Q) : Rm (M.bind m f) s Q := by
  obtain ⟨a, s', e, q⟩ := h.out
  obtain ⟨b, s2, e2, q2⟩ := q.out
  refine eq (a := b) (s' := s2) ?_ q2
  unfold M.bind
  rw [e]
  exact e2
theorem bindP {f : α → β} {Q : β → FS → Prop} (h : Rm m s fun a s' => Q (f a) s') : Rm (M.bind m fun a => M.pure (f a)) s Q := bind (h.mono fun _ _ h => ⟨h⟩)
theorem pure (h : Q a s) : Rm (M.pure a) s Q := ⟨h⟩
theorem lift (e : o = some a) (h : Q a s) : Rm (M.lift o) s Q := by subst e; exact ⟨h⟩
theorem lift2 (h : ∃ a, o = some a ∧ Q a s) : Rm (M.lift o) s Q := by
  obtain ⟨a, e, h⟩ := h
  exact lift e h
theorem quiet (h : Rm m s Q) : Rm (M.quiet m) s Q := by
  obtain ⟨a, s', e, q⟩ := h.out
  refine eq (a := a) (s' := s') ?_ q
  unfold M.quiet
  rw [e]
theorem iteT {x y : M α} (h : Rm x s Q) : Rm (if true = true then x else y) s Q := h
theorem iteF {x y : M α} (h : Rm y s Q) : Rm (if false = true then x else y) s Q := h
theorem ifT {x y : M α} {k : Bool} (e : k = true) (h : Rm x s Q) : Rm (if k = true then x else y) s Q := by
  subst e; exact h
theorem ifF {x y : M α} {k : Bool} (e : k = false) (h : Rm y s Q) : Rm (if k = true then x else y) s Q := by
  subst e; exact h
theorem ite {x y : M α} {c : Bool} (h : c = true → Rm x s Q) (h2 : c = false → Rm y s Q) : Rm (if c = true then x else y) s Q := by
  cases c with
  | true => exact h rfl
  | false => exact h2 rfl
end
section
variable {ρ : Env'} {s : FS} {f f1 f2 f3 : Env' → M D} {fl : Env' → M (List D)} {g : D → D → Option D} {Q : D → FS → Prop} {QL : List D → FS → Prop} {QB : Bool → FS → Prop} {i : Nat} {d : D} {c c1 c2 : Env' → M Bool}
theorem var (h : Rm (M.lift (ρ[i]?.join)) s Q) : Rm (dVar i ρ) s Q := h
theorem con (h : Q d s) : Rm (dC d ρ) s Q := ⟨h⟩
theorem op (h : Rm (f1 ρ) s fun x s => Rm (f2 ρ) s fun y s => Rm (M.lift (g x y)) s Q) : Rm (dOp g f1 f2 ρ) s Q := bind (h.mono fun _ _ h => bind h)
theorem un {g : D → Option D} (h : Rm (f1 ρ) s fun x s => Rm (M.lift (g x)) s Q) : Rm (dUn g f1 ρ) s Q := bind h
theorem lnil (h : QL [] s) : Rm (lNil ρ) s QL := ⟨h⟩
theorem lcons (h : Rm (f1 ρ) s fun x s => Rm (fl ρ) s fun xs s => QL (x :: xs) s) : Rm (lCons f1 fl ρ) s QL := bind (h.mono fun _ _ h => bindP h)
theorem fn {g : List D → Option D} (h : Rm (fl ρ) s fun xs s => Rm (M.lift (g xs)) s Q) : Rm (dFn g fl ρ) s Q := bind h
theorem call {g : List D → M D} (h : Rm (fl ρ) s fun xs s => Rm (g xs) s Q) : Rm (dCall g fl ρ) s Q := bind h
theorem mt {g : D → List D → Option D} (h : Rm (f1 ρ) s fun x s => Rm (fl ρ) s fun xs s => Rm (M.lift (g x xs)) s Q) : Rm (dMt g f1 fl ρ) s Q := bind (h.mono fun _ _ h => bind h)
theorem mtT {T : String} {g : D → List D → Option D} (h : Rm (f1 ρ) s fun x s => tyD x = some T ∧ Rm (fl ρ) s fun xs s => Rm (M.lift (g x xs)) s Q) : Rm (dMtT T g f1 fl ρ) s Q := bind (h.mono fun x s ⟨h1, h2⟩ => by
  rw [if_pos h1]
  exact bind h2)
theorem dif (h : Rm (c ρ) s fun k s => Rm (if k = true then f1 ρ else f2 ρ) s Q) : Rm (dIf c f1 f2 ρ) s Q := bind h
theorem dand (h : Rm (f1 ρ) s fun x s => Rm (M.lift (truthD x)) s fun k s => Rm (if k = true then f2 ρ else M.pure x) s Q) : Rm (dAnd f1 f2 ρ) s Q := bind (h.mono fun _ _ h => bind h)
theorem dor (h : Rm (f1 ρ) s fun x s => Rm (M.lift (truthD x)) s fun k s => Rm (if k = true then M.pure x else f2 ρ) s Q) : Rm (dOr f1 f2 ρ) s Q := bind (h.mono fun _ _ h => bind h)
theorem dnot (h : Rm (f1 ρ) s fun x s => Rm (M.lift (truthD x)) s fun k s => Q (.bl (!k)) s) : Rm (dNot f1 ρ) s Q := bind (h.mono fun _ _ h => bindP h)
theorem tru (h : Rm (f1 ρ) s fun x s => Rm (M.lift (truthD x)) s QB) : Rm (cTru f1 ρ) s QB := bind h
theorem cmp (h : Rm (f1 ρ) s fun x s => Rm (f2 ρ) s fun y s => Rm (M.lift (g x y)) s fun z s => Rm (M.lift (blD z)) s QB) : Rm (cCmp g f1 f2 ρ) s QB := bind (h.mono fun _ _ h => bind (h.mono fun _ _ h => bind h))
theorem cnot (h : Rm (c ρ) s fun k s => QB (!k) s) : Rm (cNot c ρ) s QB := bindP h
theorem cand (h : Rm (c1 ρ) s fun k s => Rm (if k = true then c2 ρ else M.pure false) s QB) : Rm (cAnd c1 c2 ρ) s QB := bind h
theorem cor (h : Rm (c1 ρ) s fun k s => Rm (if k = true then M.pure true else c2 ρ) s QB) : Rm (cOr c1 c2 ρ) s QB := bind h
theorem cyes (h : QB true s) : Rm (cYes ρ) s QB := ⟨h⟩
theorem isi {ts : List String} (h : Rm (f ρ) s fun x s => Rm (M.lift ((tyD x).bind fun t => (kitAnyB t ts).map D.bl)) s Q) : Rm (dIsi ts f ρ) s Q := bind h
def get2K (f2 f3 : Env' → M D) (ρ : Env') : D → M D
  | .dic kvs => (f2 ρ).bind fun k => (f3 ρ).bind fun z => M.lift ((keyD k).map fun k => (lookD kvs k).getD z)
  | _ => M.bad
theorem get2 (h : Rm (f1 ρ) s fun x s => Rm (get2K f2 f3 ρ x) s Q) : Rm (dGet2 f1 f2 f3 ρ) s Q := bind (h.mono fun x s h => by
  cases x <;> exact h)
theorem get2k {kvs : List (Key × D)} (h : Rm (f2 ρ) s fun k s => Rm (f3 ρ) s fun z s => Rm (M.lift ((keyD k).map fun k => (lookD kvs k).getD z)) s Q) : Rm (get2K f2 f3 ρ (.dic kvs)) s Q := bind (h.mono fun _ _ h => bind h)
theorem dnew (h : Rm (fl ρ) s fun xs s => Q (.lst xs) s) : Rm (dNew fl ρ) s Q := bindP h
theorem sl {lo hi : Env' → M (Option Int)} (h : Rm (f ρ) s fun x s => Rm (lo ρ) s fun l s => Rm (hi ρ) s fun u s => Rm (M.lift (slD x l u)) s Q) : Rm (dSl f lo hi ρ) s Q := bind (h.mono fun _ _ h => bind (h.mono fun _ _ h => bind h))
theorem ono {Q : Option Int → FS → Prop} (h : Q none s) : Rm (oNo ρ) s Q := ⟨h⟩
theorem osome {Q : Option Int → FS → Prop} (h : Rm (f ρ) s fun x s => Rm (M.lift (intD x)) s Q) : Rm (oSome f ρ) s Q := bind h
theorem iany (h : Rm (f ρ) s fun x s => Rm (M.lift (anyD' x)) s QL) : Rm (iAny f ρ) s QL := bind h
theorem ifn {g : List D → Option (List D)} (h : Rm (fl ρ) s fun x s => Rm (M.lift (g x)) s QL) : Rm (iFn g fl ρ) s QL := bind h
theorem lc {it : Env' → M (List D)} {b : D → Option Asg} (h : Rm (it ρ) s fun xs s => xs.length ≤ sizeLine ∧ Rm (lcE b c f xs ρ) s QL) : Rm (dLc it b c f ρ) s QL := bind (h.mono fun xs s ⟨h1, h2⟩ => by
  rw [if_pos h1]
  exact h2.quiet)
end
section
variable {ρ : Sts} {s : FS} {f : Env' → M D} {fv fv2 : Sts → M (EV × Sts)} {fl : Sts → M (List D × Sts)} {g g' : Sts → M (Fl × Sts)} {Q : Fl × Sts → FS → Prop} {QV : EV × Sts → FS → Prop} {QL : List D × Sts → FS → Prop} {i j : Nat} {d : D} {c : Env' → M Bool} {x : D}
theorem seq (h : Rm (g ρ) s fun p s => Rm (seqK g' p) s Q) : Rm (gSeq g g' ρ) s Q := bind h
theorem seq1 {ρ' : Sts} (h1 : Rm (g ρ) s fun p s' => p = (.nx, ρ') ∧ s' = s) (h2 : Rm (g' ρ') s Q) : Rm (gSeq g g' ρ) s Q := seq (h1.mono fun p s' h => by
  obtain ⟨rfl, rfl⟩ := h
  exact h2)
theorem seqNx (h : Rm (g ρ) s Q) : Rm (seqK g (.nx, ρ)) s Q := h
theorem seqRt (h : Q (.rt d, ρ) s) : Rm (seqK g (.rt d, ρ)) s Q := ⟨h⟩
theorem seqCt (h : Q (.ct, ρ) s) : Rm (seqK g (.ct, ρ)) s Q := ⟨h⟩
theorem seqBk (h : Q (.bk, ρ) s) : Rm (seqK g (.bk, ρ)) s Q := ⟨h⟩
theorem next (h : Q (.nx, ρ) s) : Rm (gNext ρ) s Q := ⟨h⟩
theorem set (h : Rm (fv ρ) s fun p s => Q (.nx, p.2.set i p.1) s) : Rm (gSet i fv ρ) s Q := bindP h
theorem drop (h : Rm (fv ρ) s fun p s => Q (.nx, p.2) s) : Rm (gDrop fv ρ) s Q := bindP h
theorem cond (h : Rm (c (view ρ)) s fun k s => Rm (if k = true then g ρ else g' ρ) s Q) : Rm (gIf c g g' ρ) s Q := bind h
theorem ret (h : Rm (f (view ρ)) s fun x s => Q (.rt x, ρ) s) : Rm (gRet f ρ) s Q := bindP h
theorem retN (h : Q (.rt .non, ρ) s) : Rm (gRetN ρ) s Q := ⟨h⟩
theorem brk (h : Q (.bk, ρ) s) : Rm (gBreak ρ) s Q := ⟨h⟩
theorem cont (h : Q (.ct, ρ) s) : Rm (gCont ρ) s Q := ⟨h⟩
theorem frz (h : Rm (g (DL.frz i ρ)) s Q) : Rm (gFrz i g ρ) s Q := h
theorem vmask (h : Rm (f (mask ρ)) s fun x s => QV (.d x, ρ) s) : Rm (vMask f ρ) s QV := bindP h
theorem vview (h : Rm (f (view ρ)) s fun x s => Rm (M.lift (scalD x)) s fun x s => QV (.d x, ρ) s) : Rm (vView f ρ) s QV := bind (h.mono fun _ _ h => bindP h)
theorem vnew {f : Env' → M (List D)} (h : Rm (f (mask ρ)) s fun x s => QV (.ol x, ρ) s) : Rm (vNew f ρ) s QV := bindP h
theorem vnewD (h : QV (.od [], ρ) s) : Rm (vNewD ρ) s QV := ⟨h⟩
theorem lvnil (h : QL ([], ρ) s) : Rm (lvNil ρ) s QL := ⟨h⟩
def lvK (fl : Sts → M (List D × Sts)) (p : EV × Sts) : M (List D × Sts) := match p.1 with
  | .d x => (fl p.2).bind fun q => M.pure (x :: q.1, q.2)
  | _ => M.bad
theorem lvcons (h : Rm (fv ρ) s fun p s => Rm (lvK fl p) s QL) : Rm (lvCons fv fl ρ) s QL := bind h
theorem lvk (h : Rm (fl ρ) s fun q s => QL (x :: q.1, q.2) s) : Rm (lvK fl (.d x, ρ)) s QL := bindP h
def mtK (i : Nat) (mo : List D → List D → Option (D × List D)) (q : List D × Sts) : M (EV × Sts) := match q.2[i]? with
    | some (.ol xs) => (M.lift (mo xs q.1)).bind fun z => M.pure (.d z.1, q.2.set i (.ol z.2))
    | _ => M.bad
theorem vmt {mo : List D → List D → Option (D × List D)} {xs : List D} (e : ρ[i]? = some (.ol xs)) (h : Rm (fl ρ) s fun q s => Rm (mtK i mo q) s QV) : Rm (vMt i mo fl ρ) s QV := by
  unfold vMt
  rw [e]
  exact bind h
theorem mtk {mo : List D → List D → Option (D × List D)} {xs as : List D} (e : ρ[i]? = some (.ol xs)) (h : Rm (M.lift (mo xs as)) s fun z s => QV (.d z.1, ρ.set i (.ol z.2)) s) : Rm (mtK i mo (as, ρ)) s QV := by
  unfold mtK
  dsimp only
  rw [e]
  exact bindP h
def asgK (b : D → Option Asg) (p : EV × Sts) : M (Fl × Sts) := match p.1 with
  | .d x => (M.lift (b x)).bind fun as => M.pure (.nx, setS as p.2)
  | _ => M.bad
theorem asgT {b : D → Option Asg} (h : Rm (fv ρ) s fun p s => Rm (asgK b p) s Q) : Rm (gAsgT b fv ρ) s Q := bind h
theorem asgk {b : D → Option Asg} (h : Rm (M.lift (b x)) s fun as s => Q (.nx, setS as ρ) s) : Rm (asgK b (.d x, ρ)) s Q := bindP h
theorem par (hl : i < ρ.length ∧ j < ρ.length) (h : Rm (fv ρ) s fun p s => Rm (fv2 p.2) s fun q s => Q (.nx, (q.2.set i p.1).set j q.1) s) : Rm (gPar i j fv fv2 ρ) s Q := by
  unfold gPar
  rw [if_pos hl]
  exact bind (h.mono fun _ _ h => bindP h)
theorem for_ {it : Env' → M (List D)} {b : D → Option Asg} (h : Rm (it (mask ρ)) s fun xs s => Rm (forS b g xs ρ) s Q) : Rm (gFor it b g ρ) s Q := bind h
def stdK (i : Nat) (fk : Sts → M (EV × Sts)) (p : EV × Sts) : M (Fl × Sts) := match p.2[i]? with
  | some (.od _) => (fk p.2).bind fun q => match p.1, q.1, q.2[i]? with
    | .d y, .d kk, some (.od xs) => (M.lift (keyD kk)).bind fun k => if xs.length < sizeLine then M.pure (.nx, q.2.set i (.od (putD xs k y))) else M.bad
    | _, _, _ => M.bad
  | _ => M.bad
theorem stD (h : Rm (fv ρ) s fun p s => Rm (stdK i fv2 p) s Q) : Rm (gStD i fv fv2 ρ) s Q := bind h
def stdK2 (i : Nat) (y : D) (q : EV × Sts) : M (Fl × Sts) := match q.1, q.2[i]? with
    | .d kk, some (.od xs) => (M.lift (keyD kk)).bind fun k => if xs.length < sizeLine then M.pure (.nx, q.2.set i (.od (putD xs k y))) else M.bad
    | _, _ => M.bad
theorem stdk {xs : List (Key × D)} (e : ρ[i]? = some (.od xs)) (h : Rm (fv2 ρ) s fun q s => Rm (stdK2 i x q) s Q) : Rm (stdK i fv2 (.d x, ρ)) s Q := by
  unfold stdK
  dsimp only
  rw [e]
  refine bind (h.mono fun q s' h => ?_)
  obtain ⟨a, ρ'⟩ := q
  unfold stdK2 at h
  dsimp only at h ⊢
  split at h
  · rename_i h1
    rw [h1]
    exact h
  · obtain ⟨a, s2, e, _⟩ := h.out
    cases e
theorem stdk2 {xs : List (Key × D)} {kk : D} (e : ρ[i]? = some (.od xs)) (hl : xs.length < sizeLine) (h : Rm (M.lift (keyD kk)) s fun k s => Q (.nx, ρ.set i (.od (putD xs k x))) s) : Rm (stdK2 i x (.d kk, ρ)) s Q := by
  unfold stdK2
  dsimp only
  rw [e]
  refine bind (h.mono fun q s' h => ?_)
  rw [if_pos hl]
  exact ⟨h⟩
/-- a loop, with what holds ahead of each pass -/
theorem loop {b : D → Option Asg} {xs : List D} (I : List D → Sts → FS → Prop) (h0 : I xs ρ s)
    (h1 : ∀ x r ρ s, I (x :: r) ρ s → ∃ as, b x = some as ∧ Rm (g (setS as ρ)) s fun p s => match p.1 with
      | .nx => I r p.2 s
      | .ct => I r p.2 s
      | .bk => Q (.nx, p.2) s
      | .rt d => Q (.rt d, p.2) s)
    (h2 : ∀ ρ s, I [] ρ s → Q (.nx, ρ) s) : Rm (forS b g xs ρ) s Q := by
  induction xs generalizing ρ s with
  | nil => exact ⟨h2 _ _ h0⟩
  | cons x r ih =>
    obtain ⟨as, e, h⟩ := h1 _ _ _ _ h0
    show Rm (M.bind (M.lift (b x)) _) s Q
    rw [e]
    refine bind (lift rfl (bind (h.mono fun p s' h => ?_)))
    obtain ⟨k, ρ'⟩ := p
    cases k with
    | nx => exact ih h
    | ct => exact ih h
    | bk => exact ⟨h⟩
    | rt d => exact ⟨h⟩
end
section
variable {ρ : Env'} {s : FS} {b : D → Option Asg} {f : Env' → M D} {c : Env' → M Bool} {xs : List D} {Q : List D → FS → Prop}
/-- a comprehension with no test -/
theorem lcY (I : FS → Prop) (P : D → D → Prop) (h0 : I s) (h1 : ∀ x s, x ∈ xs → I s → ∃ as, b x = some as ∧ Rm (f (setE as ρ)) s fun y s => P x y ∧ I s)
    (h2 : ∀ (ys : List D) (s : FS), ys.length = xs.length → (∀ (i : Nat) (x y : D), xs[i]? = some x → ys[i]? = some y → P x y) → I s → Q ys s) : Rm (lcE b cYes f xs ρ) s Q := by
  induction xs generalizing s Q with
  | nil => exact ⟨h2 _ _ rfl (fun i x y h => by simp at h) h0⟩
  | cons x r ih =>
    obtain ⟨as, e, h⟩ := h1 x s List.mem_cons_self h0
    show Rm (M.bind (M.lift (b x)) _) s Q
    rw [e]
    refine bind (lift rfl (bind ?_))
    refine cyes ?_
    rw [if_pos rfl]
    refine bind (h.mono fun y s' h => bind ?_)
    refine ih h.2 (fun x s hx => h1 x s (List.mem_cons_of_mem _ hx)) fun ys s2 e2 p2 i2 => ?_
    refine ⟨h2 (y :: ys) s2 (by simp [e2]) (fun i x' y' hx hy => ?_) i2⟩
    cases i with
    | zero => simp at hx hy; subst hx hy; exact h.1
    | succ i => exact p2 i x' y' (by simpa using hx) (by simpa using hy)
theorem lcMap (F : D → D) (h1 : ∀ x, x ∈ xs → ∃ as, b x = some as ∧ f (setE as ρ) s = .ok (F x) s) (h2 : Q (xs.map F) s) : Rm (lcE b cYes f xs ρ) s Q := by
  refine lcY (fun s' => s' = s) (fun x y => y = F x) rfl (fun x s' hx e => ?_) fun ys s' e p i => ?_
  · subst e
    obtain ⟨as, e1, e2⟩ := h1 x hx
    exact ⟨as, e1, eq e2 ⟨rfl, rfl⟩⟩
  · subst i
    have : ys = xs.map F := by
      refine List.ext_getElem? fun i => ?_
      rw [List.getElem?_map]
      cases q : ys[i]? with
      | none =>
        have : xs[i]? = none := by
          rw [List.getElem?_eq_none_iff] at q ⊢
          omega
        rw [this]; rfl
      | some y =>
        obtain ⟨x, hx⟩ : ∃ x, xs[i]? = some x := ⟨_, List.getElem?_eq_getElem (by have := (List.getElem?_eq_some_iff.mp q).1; omega)⟩
        rw [hx, p i x y hx q]; rfl
    rw [this]
    exact h2
/-- a comprehension with a test -/
theorem lcT (I : FS → Prop) (P : D → Prop) (h0 : I s) (h1 : ∀ x s, x ∈ xs → I s → ∃ as, b x = some as ∧ Rm (c (setE as ρ)) s fun k s => if k = true then Rm (f (setE as ρ)) s fun y s => P y ∧ I s else I s)
    (h2 : ∀ (ys : List D) (s : FS), ys.length ≤ xs.length → (∀ y, y ∈ ys → P y) → I s → Q ys s) : Rm (lcE b c f xs ρ) s Q := by
  induction xs generalizing s Q with
  | nil => exact ⟨h2 _ _ (Nat.le_refl _) (fun y h => by simp at h) h0⟩
  | cons x r ih =>
    obtain ⟨as, e, h⟩ := h1 x s List.mem_cons_self h0
    show Rm (M.bind (M.lift (b x)) _) s Q
    rw [e]
    refine bind (lift rfl (bind (h.mono fun k s1 h => ?_)))
    cases k with
    | true =>
      rw [if_pos rfl] at h ⊢
      refine bind (h.mono fun y s' h => bind ?_)
      refine ih h.2 (fun x s hx => h1 x s (List.mem_cons_of_mem _ hx)) fun ys s2 e2 p2 i2 => ?_
      refine ⟨h2 (y :: ys) s2 (by simp [e2]) (fun y' hy => ?_) i2⟩
      rcases List.mem_cons.mp hy with rfl | hy
      · exact h.1
      · exact p2 _ hy
    | false =>
      rw [if_neg (by decide)] at h ⊢
      exact ih h (fun x s hx => h1 x s (List.mem_cons_of_mem _ hx)) fun ys s2 e2 => h2 ys s2 (Nat.le_succ_of_le e2)
theorem run {n k : Nat} {body : Sts → M (Fl × Sts)} {ds : List D} {Q : D → FS → Prop} (hk : ds.length = k) (h : Rm (body (ds.map EV.d ++ List.replicate (n - k) .no)) s fun p s => Rm (runK p) s Q) : Rm (runD n k body ds) s Q := by
  unfold runD
  rw [if_pos hk]
  exact bind h
theorem runNx {ρ : Sts} {Q : D → FS → Prop} (h : Q .non s) : Rm (runK (.nx, ρ)) s Q := ⟨h⟩
theorem runRt {ρ : Sts} {d : D} {Q : D → FS → Prop} (h : Q d s) : Rm (runK (.rt d, ρ)) s Q := ⟨h⟩
theorem draw {n : Int} {Q : D → FS → Prop} (hn : 0 < n) (hn2 : n < 1073741824) (h : s.Ok) (q : ∀ (k : Int) s', s'.Ok → 0 ≤ k → k < n → Q (.int k) s') : Rm (feedFn drawM [.feed, .int n]) s Q := by
  obtain ⟨k, s', e, h1, h2, h3, h4⟩ := drawM_some hn hn2 s h
  refine eq (a := .int k) (s' := s') ?_ (q k s' h1 h3 h4)
  show (match drawM n s with
    | .ok k s' => Res.ok (D.int k) s'
    | _ => .bad) = _
  rw [e]
end
end Rm
theorem rng1_eq {j : Int} (h : -(2 ^ 62) ≤ j) (h2 : j < 2 ^ 62) : rng1 [.int j] = some (rangeD 0 j.toNat) := if_pos ⟨h, h2⟩
theorem rng2_eq {i j : Int} (h : -(2 ^ 62) ≤ i) (h2 : i < 2 ^ 62) (h3 : -(2 ^ 62) ≤ j) (h4 : j < 2 ^ 62) : rng2 [.int i, .int j] = some (rangeD i (j - i).toNat) := if_pos ⟨h, h2, h3, h4⟩
theorem Rm.rng1 {j : Int} {s : FS} {Q : List D → FS → Prop} (h : -(2 ^ 62) ≤ j ∧ j < 2 ^ 62) (q : Q (rangeD 0 j.toNat) s) : Rm (M.lift (DL.rng1 [.int j])) s Q := Rm.lift (rng1_eq h.1 h.2) q
theorem Rm.rng2 {i j : Int} {s : FS} {Q : List D → FS → Prop} (h : (-(2 ^ 62) ≤ i ∧ i < 2 ^ 62) ∧ (-(2 ^ 62) ≤ j ∧ j < 2 ^ 62)) (q : Q (rangeD i (j - i).toNat) s) : Rm (M.lift (DL.rng2 [.int i, .int j])) s Q := Rm.lift (rng2_eq h.1.1 h.1.2 h.2.1 h.2.2) q
theorem Rm.modp {a b : Int} {s : FS} {Q : D → FS → Prop} (h : 0 < b) (q : Q (.int (a % b)) s) : Rm (M.lift (modD (.int a) (.int b))) s Q := Rm.lift (if_pos h) q
theorem Rm.mulp {a b : Int} {s : FS} {Q : D → FS → Prop} (h : (-(2 ^ 64) < a ∧ a < 2 ^ 64) ∨ (-(2 ^ 64) < b ∧ b < 2 ^ 64)) (q : Q (.int (a * b)) s) : Rm (M.lift (mulD (.int a) (.int b))) s Q := Rm.lift (if_pos h) q
theorem Rm.fdivp {a b : Int} {s : FS} {Q : D → FS → Prop} (h : 0 < b ∧ b < 1073741824) (q : Q (.int (a / b)) s) : Rm (M.lift (fdivD (.int a) (.int b))) s Q := Rm.lift (if_pos h) q
theorem Rm.addl {a b : List D} {s : FS} {Q : D → FS → Prop} (h : a.length + b.length ≤ sizeLine) (q : Q (.lst (a ++ b)) s) : Rm (M.lift (addD (.lst a) (.lst b))) s Q := Rm.lift (if_pos h) q
theorem Rm.addt {a b : List D} {s : FS} {Q : D → FS → Prop} (h : a.length + b.length ≤ sizeLine) (q : Q (.tup (a ++ b)) s) : Rm (M.lift (addD (.tup a) (.tup b))) s Q := Rm.lift (if_pos h) q
theorem Rm.app {xs : List D} {y : D} {s : FS} {Q : D × List D → FS → Prop} (h : xs.length < sizeLine) (q : Q (.non, xs ++ [y]) s) : Rm (M.lift (moAppend xs [y])) s Q := Rm.lift (if_pos h) q
theorem Rm.eqi {a b : Int} {s : FS} {Q : D → FS → Prop} (q : Q (.bl (decide (a = b))) s) : Rm (M.lift (eqD (.int a) (.int b))) s Q := Rm.lift (eqD_int a b) q
theorem rangeD_len (lo : Int) (n : Nat) : (rangeD lo n).length = n := by simp [rangeD]
theorem rangeD_get2 {lo : Int} {n i : Nat} {x : D} (h : (rangeD lo n)[i]? = some x) : i < n ∧ x = .int (lo + i) := by
  unfold rangeD at h
  rw [List.getElem?_map] at h
  cases q : (List.range n)[i]? with
  | none => rw [q] at h; cases h
  | some k =>
    rw [q] at h
    obtain ⟨h1, h2⟩ := List.getElem?_eq_some_iff.mp q
    rw [List.getElem_range] at h2
    subst h2
    cases h
    exact ⟨by simpa using h1, rfl⟩
theorem rangeD_mem {lo : Int} {n : Nat} {x : D} (h : x ∈ rangeD lo n) : ∃ i : Nat, i < n ∧ x = .int (lo + i) := by
  unfold rangeD at h
  obtain ⟨i, hi, rfl⟩ := List.mem_map.mp h
  exact ⟨i, by simpa using hi, rfl⟩
theorem fs1_ok (ns : List Int) : (fs1 ns).Ok := ⟨(stir_ok ns).1, (stir_ok ns).2, Int.le_refl _, Int.le_refl _⟩
end DL

set_option Elab.async false
set_option linter.all false
set_option maxRecDepth 100000
set_option maxHeartbeats 2000000
/-! The data layer: lists of a text's signs, sorted, names of the module, calls by keyword, defs that hand on a new list. -/
namespace DL
open PySem PySem.Spec PyProof.Rows L2
/-- the signs of a text -/
def signsD (z : Str) : List D := z.cps.toList.map fun c => .str ⟨#[c]⟩
section
variable {X : Cx} {fa : Option FA}
def rListT : List V → Hp → VK → Prop := fun xs H Q => ∃ z : Str, xs = [.str z] ∧ z.cps.size ≤ sizeLine ∧ ∀ l, H l = none → Q (.ref l) (upd H l (.lst (z.cps.toList.map fun c => V.str ⟨#[c]⟩)))
theorem call_list_text (hc : X.calm = true) : CallR X (.type "list") rListT := by
  intro pins s σ H xs us Q I r h
  obtain ⟨z, e, hz, q⟩ := h
  subst e
  obtain ⟨u, eu, rx⟩ := vals1 r
  subst eu
  obtain ⟨t, rfl⟩ := rx
  refine PySem.call_list_str (I.ok.hd hc) z t (fun h' tk acc' c' hkeep hS hacc => ?_) hz
  refine ⟨.ref s.heap.objs.size, upd H s.heap.objs.size (.lst (z.cps.toList.map fun c => V.str ⟨#[c]⟩)), I.laid hkeep (Nat.le_refl _) (show ObjOk X.prog X.w _ _ _ (.lst (z.cps.toList.map fun c => V.str ⟨#[c]⟩)) from ⟨?_, acc'.toList, c', ?_, ?_⟩), rfl, q _ (I.hok.fresh (Nat.le_refl _))⟩
  · rw [List.length_map, Array.length_toList]; exact hz
  · have el : acc'.toList.length = acc'.size := by simp
    refine vals_of_at (by rw [List.length_map, el, hacc.1, Array.length_toList]) fun j x w h1 h2 => ?_
    have h3 := hacc.2 j w (by rw [← Array.getElem?_toList]; exact h2)
    obtain ⟨c, t', e1, rfl⟩ := h3
    rw [List.getElem?_map, Array.getElem?_toList, e1] at h1
    cases h1
    exact ⟨t', rfl⟩
  · rw [Array.toArray_toList]; exact hS
def listA : List D → Option D
  | [.lst xs] => some (.lst xs)
  | [.tup xs] => some (.lst xs)
  | [.str z] => if z.cps.size ≤ sizeLine then some (.lst (signsD z)) else none
  | _ => none
def rListA (X : Cx) : List V → Hp → VK → Prop := fun xs H Q => (∃ p ys, xs = [.ref p] ∧ (SqL X.K H p ys ∨ SqT X.K H p ys) ∧ ∀ l, H l = none → Q (.ref l) (upd H l (.lst ys))) ∨ rListT xs H Q
theorem call_listA (hc : X.calm = true) : CallR X (.type "list") (rListA X) := CallR.or call_list_of (call_list_text hc)
theorem signs_rep {K : PySem.W.Frag} {F : Hp} : ∀ l : List Nat, RepL K fa F (l.map fun c => D.str ⟨#[c]⟩) (l.map fun c => V.str ⟨#[c]⟩)
  | [] => .nil
  | c :: r => .cons (.str _) (signs_rep r)
theorem ok_listA : CallOk X fa (rListA X) listA := by
  intro F H s xs as Q h1 h2 r h
  cases r with
  | nil => exact h.elim
  | cons r t =>
    cases t with
    | cons _ _ => cases r <;> exact h.elim
    | nil =>
      cases r with
      | lst hq r => exact .inl ⟨_, _, rfl, .inl (SqL.of (h1 _ _ hq)), fun p hp => GoodO.new h1 h2 hp (.lst upd_same (r.mono (Ext.new (fa := fa) h1 hp).ff)) h⟩
      | tup hq r => exact .inl ⟨_, _, rfl, .inr (same_seqT h1 hq), fun p hp => GoodO.new h1 h2 hp (.lst upd_same (r.mono (Ext.new (fa := fa) h1 hp).ff)) h⟩
      | str z =>
        by_cases hz : z.cps.size ≤ sizeLine
        · rw [show listA [.str z] = some (.lst (signsD z)) from if_pos hz] at h
          exact .inr ⟨z, rfl, hz, fun p hp => GoodO.new h1 h2 hp (.lst upd_same (signs_rep _)) h⟩
        · rw [show listA [.str z] = none from if_neg hz] at h
          exact h.elim
      | _ => exact h.elim
def listNA : List D → Option (List D)
  | [.lst xs] => some xs
  | [.tup xs] => some xs
  | [.str z] => if z.cps.size ≤ sizeLine then some (signsD z) else none
  | _ => none
/-! ### sorted -/
def leS (a b : Str) : Bool := !ltCps b.cps.toList a.cps.toList
theorem leS_iff {a b : Str} : leS a b = true ↔ ¬ b.cps.toList < a.cps.toList := by
  unfold leS
  rw [ltCps_eq]
  simp
theorem leS_le {a b : Str} : leS a b = true ↔ a.cps.toList ≤ b.cps.toList := leS_iff.trans List.not_lt
theorem leS_trans {a b c : Str} (h1 : leS a b = true) (h2 : leS b c = true) : leS a c = true := leS_le.mpr (List.le_trans (leS_le.mp h1) (leS_le.mp h2))
theorem leS_total (a b : Str) : (leS a b || leS b a) = true := by
  rcases List.le_total a.cps.toList b.cps.toList with h | h
  · rw [leS_le.mpr h]; rfl
  · rw [leS_le.mpr h, Bool.or_true]
theorem leS_anti {a b : Str} (h1 : leS a b = true) (h2 : leS b a = true) : a = b := by
  have h := List.le_antisymm (leS_le.mp h1) (leS_le.mp h2)
  obtain ⟨⟨x⟩⟩ := a
  obtain ⟨⟨y⟩⟩ := b
  have h : x = y := h
  rw [h]
def sortS (xs : List Str) : List Str := xs.mergeSort leS
theorem pair_of_rising : ∀ (l : List Str) (p : Str), risingS p l = true → (p :: l).Pairwise fun a b => leS a b = true
  | [], p, _ => by simp
  | x :: r, p, h => by
    have h : (!ltCps x.cps.toList p.cps.toList && risingS x r) = true := h
    rw [Bool.and_eq_true] at h
    have ih := pair_of_rising r x h.2
    refine List.pairwise_cons.mpr ⟨fun y hy => ?_, ih⟩
    rcases List.mem_cons.mp hy with rfl | hy
    · exact h.1
    · exact leS_trans h.1 ((List.pairwise_cons.mp ih).1 y hy)
theorem pair_of_sorted : ∀ {l : List Str}, sortedS l = true → l.Pairwise fun a b => leS a b = true
  | [], _ => .nil
  | x :: r, h => pair_of_rising r x h
theorem sortS_pair (xs : List Str) : (sortS xs).Pairwise fun a b => leS a b = true := List.pairwise_mergeSort (le := leS) (fun _ _ _ => leS_trans) leS_total xs
theorem sortS_perm (xs : List Str) : (sortS xs).Perm xs := List.mergeSort_perm xs leS
theorem sortS_eq {xs ys : List Str} (hp : ys.Perm xs) (hs : sortedS ys = true) : ys = sortS xs :=
  List.Perm.eq_of_pairwise (le := fun a b => leS a b = true) (fun _ _ _ _ => leS_anti) (pair_of_sorted hs) (sortS_pair xs) (hp.trans (sortS_perm xs).symm)
def sortI (xs : List Int) : List Int := xs.mergeSort fun a b => decide (a ≤ b)
theorem sortI_pair (xs : List Int) : (sortI xs).Pairwise (· ≤ ·) := (List.pairwise_mergeSort (le := fun a b => decide (a ≤ b)) (fun a b c h1 h2 => by
  have a1 := of_decide_eq_true h1
  have a2 := of_decide_eq_true h2
  exact decide_eq_true (by omega)) (fun a b => by
  by_cases h : a ≤ b
  · simp [h]
  · have : b ≤ a := by omega
    simp [this]) xs).imp fun h => of_decide_eq_true h
theorem sortI_perm (xs : List Int) : (sortI xs).Perm xs := List.mergeSort_perm xs _
theorem sortI_eq {xs ys : List Int} (hp : ys.Perm xs) (hs : ys.Pairwise (· ≤ ·)) : ys = sortI xs :=
  List.Perm.eq_of_pairwise (le := (· ≤ ·)) (fun _ _ _ _ h1 h2 => by omega) hs (sortI_pair xs) (hp.trans (sortI_perm xs).symm)
def strsD : List D → Option (List Str)
  | [] => some []
  | .str i :: xs => (strsD xs).map fun r => i :: r
  | _ => none
theorem strsD_rep {K : PySem.W.Frag} {F : Hp} : ∀ {xs : List D} {vs : List V} {ns : List Str}, strsD xs = some ns → RepL K fa F xs vs → vs = ns.map V.str
  | _, _, _, h, .nil => by cases h; rfl
  | x :: xs, v :: vs, ns, h, .cons r t => by
    cases r with
    | str i =>
      rw [strsD] at h
      cases q : strsD xs with
      | none => rw [q] at h; cases h
      | some ms => rw [q] at h; cases h; rw [strsD_rep q t]; rfl
    | _ => cases h
theorem repL_strs {K : PySem.W.Frag} {F : Hp} : ∀ l : List Str, RepL K fa F (l.map D.str) (l.map V.str)
  | [] => .nil
  | c :: r => .cons (.str _) (repL_strs r)
def sortL (xs : List D) : Option (List D) := match strsD xs with
  | some ss => if ss.length < 64 then some ((sortS ss).map .str) else none
  | none => (intsD xs).map fun ns => (sortI ns).map .int
def sortedD : List D → Option D
  | [.lst xs] => (sortL xs).map .lst
  | _ => none
def rSortA (X : Cx) : List V → Hp → VK → Prop := fun xs H Q => rSortedS X.K xs H Q ∨ rSortedI X.K xs H Q
theorem cr_sortA : CallR X (.builtin "sorted") (rSortA X) := CallR.or cr_sortedS cr_sortedI
theorem ok_sorted : CallOk X fa (rSortA X) sortedD := by
  intro F H s xs as Q h1 h2 r h
  cases r with
  | nil => exact h.elim
  | cons r t =>
    cases t with
    | cons _ _ => cases r <;> exact h.elim
    | nil =>
      cases r with
      | @lst a xs vs hq r =>
        change GoodO X fa F H s ((sortL xs).map .lst) Q at h
        unfold sortL at h
        cases q : strsD xs with
        | some ss =>
          rw [q] at h
          by_cases hl : ss.length < 64
          · have h : GoodO X fa F H s (some (.lst ((sortS ss).map .str))) Q := by simpa [hl] using h
            have e := strsD_rep q r
            subst e
            refine .inl ⟨a, ss, rfl, SqL.of (h1 _ _ hq), hl, fun ys p hp hs hn => ?_⟩
            rw [sortS_eq hp hs]
            exact GoodO.new h1 h2 hn (.lst upd_same (repL_strs _)) h
          · have h : GoodO X fa F H s none Q := by simpa [hl] using h
            exact h.elim
        | none =>
          rw [q] at h
          change GoodO X fa F H s (((intsD xs).map fun ns => (sortI ns).map .int).map .lst) Q at h
          cases q2 : intsD xs with
          | none => rw [q2] at h; exact h.elim
          | some ns =>
            rw [q2] at h
            have e := intsD_rep q2 r
            subst e
            refine .inr ⟨a, ns, rfl, SqL.of (h1 _ _ hq), fun ys p hp hs hn => ?_⟩
            rw [sortI_eq hp hs]
            exact GoodO.new h1 h2 hn (.lst upd_same (RepL.ints _)) h
      | _ => exact h.elim
end
/-! ### names of the module -/
section
variable {X : Cx} {fa : Option FA} {W : L2.St → XK} {x : Str} {pos : Pos}
theorem ed_gstr {y : Str} (h : ∃ t, X.mg x = some (.str y t)) (hg : Gl X x := by rfl) (hd : (x == ("__debug__" : Str)) = false := by decide) : ED X fa W (.Name x pos) (dC (.str y)) := by
  obtain ⟨t, h⟩ := h
  exact ed_glob (.str y) (fun _ => .str y) h ⟨t, rfl⟩ hg hd
theorem ed_gint {y : Int} (h : ∃ t, X.mg x = some (.int y t)) (hg : Gl X x := by rfl) (hd : (x == ("__debug__" : Str)) = false := by decide) : ED X fa W (.Name x pos) (dC (.int y)) := by
  obtain ⟨t, h⟩ := h
  exact ed_glob (.int y) (fun _ => .int y) h ⟨t, rfl⟩ hg hd
end
end DL

set_option Elab.async false
set_option linter.all false
set_option maxRecDepth 100000
set_option maxHeartbeats 2000000
/-! The data layer: defs that hand on a new list, calls by keyword. -/
namespace DL
open PySem PySem.Spec PyProof.Rows L2
def GoodNK (K : PySem.W.Frag) (mg : Str → Option Value) (fa : Option FA) (F H : Hp) (r : Res (List D)) (Q : VK) : Prop :=
  match r with
  | .ok xs s' => ∀ p vs F' H', Ext fa F H F' H' → FeedOk K fa F' H' s' → H p = none → F' p = none → H' p = some (.lst vs) → RepL K fa F' xs vs → Q (.ref p) H'
  | _ => False
/-- the promise: no argument; a new list -/
def NewSp (K : PySem.W.Frag) (mg : Str → Option Value) (g : M (List D)) : Sp := fun vs H Q E =>
  vs = [] ∧ ∃ fa F s, Same F H ∧ FeedOk K fa F H s ∧ GoodNK K mg fa F H (g s) Q
structure CalN (P : Program) (w : World) (K : PySem.W.Frag) (mg : Str → Option Value) (base : Heap) (k : Nat) (x : Str) (g : M (List D)) : Prop where
  ex : ∃ f fd, FnOk P w K mg base (L2.CX P w) k f fd [] (NewSp K mg g) ∧ mg x = some (.ref f) ∧ PySem.W.keepIn K (.ref f) = true ∧ Binds K fd [] []
theorem passF {X : Cx} : Passes (L2.CX X.prog X.w) X (fun _ _ _ => False) := by
  intro pins σ H s e s' I c
  obtain ⟨_, _, _, _, _, _, _, _, _, _, _, _, h⟩ := c
  exact h.elim
section
variable {P : Program} {w : World} {K : PySem.W.Frag} {mg : Str → Option Value} {base : Heap}
theorem caln_of {x : Str} {st : Stmt} {k : Nat} {g : M (List D)} (D0 : Dff K mg x [] st) (h : ∀ f fd, Fun K x x st f fd → FnOk P w K mg base (L2.CX P w) k f fd [] (NewSp K mg g)) : CalN P w K mg base k x g := by
  obtain ⟨f, fd, F, hm, hb⟩ := D0.ex
  exact ⟨f, fd, h f fd F, hm, F.kp, hb⟩
theorem CalN.mono {x : Str} {j k : Nat} {g : M (List D)} (C : CalN P w K mg base j x g) (h : j ≤ k) : CalN P w K mg base k x g := by
  obtain ⟨f, fd, F, hm, hk, hb⟩ := C.ex
  exact ⟨f, fd, F.mono h, hm, hk, hb⟩
theorem fn_new {x qual : Str} {st : Stmt} {f : Addr} {fd : FuncData} {N : List Str} {k : Nat} {e : Expr} {pos : Pos} {g : Env' → M (List D)} (F : Fun K x qual st f fd) (S : FnScope N [] (defScope st)) (hst : defBody st = [.Return (some e) pos])
    (hbody : ∀ (cdv : Value) (A : Around) (outer : List Env) (s : Shared) (H : Hp) (E : XK) (fa : Option FA), Room k (A.deeper (envOfC qual (defScope st) s.heap.objs.size f cdv)) →
      ND (cxOf (L2.CX P w) P w K mg base N qual (defScope st) f cdv A outer s H E) fa (fun _ => E) e g) :
    FnOk P w K mg base (L2.CX P w) (k + 1) f fd [] (NewSp K mg (M.quiet (g []))) := by
  refine F.okX S (fun vs H Q E h => by rw [h.1]; rfl) fun cdv A outer s H vs Q E hr h => ?_
  obtain ⟨rfl, fa, Fz, fs, h1, h2, gd⟩ := h
  obtain ⟨t, p, kk⟩ := hbody cdv A outer s H E fa hr
  refine ⟨_, by rw [hst]; exact pss_one (ps_ret p), ?_⟩
  refine kk _ Fz H [] fs Q h1 h2 ⟨Nat.zero_le _, fun i d hi => by simp at hi⟩ ?_
  unfold M.quiet at gd
  cases q : g [] fs with
  | bad => rw [q] at gd; exact gd.elim
  | err e s' => rw [q] at gd; exact gd.elim
  | ok xs s' => rw [q] at gd; exact gd
section
variable {X : Cx} {fa : Option FA} {W : L2.St → XK} {e : Expr} {es : List Expr} {kws : List Keyword} {p pos : Pos} {f1 : Env' → M D} {fl fk : Env' → M (List D)}
theorem nd_cal0 {k : Nat} {g : M (List D)} {x : Str} (C : CalN X.prog X.w X.K X.mg X.base k x g) (hr : Room k X.A) (hg : Gl X x := by rfl) (hdb : (x == ("__debug__" : Str)) = false := by decide) : ND X fa W (.Call (.Name x p) [] [] pos) (fun _ => M.quiet g) := by
  obtain ⟨f, fd, F, hm, hk, hb⟩ := C.ex
  refine ⟨_, pe_call0 F hr hg hm hk hb .nil passF hdb, fun σ F H ρ s Q h1 h2 h3 h => ?_⟩
  refine ⟨rfl, fa, F, s, h1, h2, ?_⟩
  unfold M.quiet at h
  dsimp only at h
  cases q : g s with
  | bad => rw [q] at h; exact h.elim
  | err e s' => rw [q] at h; exact h.elim
  | ok d s' => rw [q] at h; exact h
/-! ### keywords -/
/-- the values of keywords -/
def KD (X : Cx) (fa : Option FA) (W : L2.St → XK) (ks : List Keyword) (f : Env' → M (List D)) : Prop := ∃ t, PK X ks t ∧ TLOk X fa W t f
theorem kd_nil : KD X fa W [] lNil := ⟨_, pk_nil, fun σ F H ρ s Q h1 h2 h3 h => h [] F H (Ext.refl h1) h2 .nil⟩
theorem kd_cons {nm : Option Str} {kpos : Pos} (h : ED X fa W e f1) (hk : KD X fa W kws fk) : KD X fa W (⟨nm, e, kpos⟩ :: kws) (lCons f1 fk) := by
  obtain ⟨t1, p1, k1⟩ := h
  obtain ⟨t2, p2, k2⟩ := hk
  refine ⟨_, pk_cons p1 p2, fun σ F H ρ s Q h1 h2 h3 h => ?_⟩
  refine k1.then GoodL.tgt h1 h2 h3 h fun x s1 v F1 H1 e1 o1 r1 v1 h' => ?_
  refine k2.then GoodL.tgt e1.fh o1 v1 h' fun xs s2 vs F2 H2 e2 o2 r2 v2 h'' => ?_
  exact h'' (v :: vs) F2 H2 (Ext.refl e2.fh) o2 (.cons (r1.mono e2.ff) r2)
/-- n arguments in order, the rest by keyword -/
def gN {α : Type} (n : Nat) (us ws : List α) : List α := if us.length = n then us ++ ws else []
/-- a def of the text stands there; behind n arguments the rest may be given by keyword -/
structure Kff (K : PySem.W.Frag) (mg : Str → Option Value) (x : Str) (ps : List Str) (n : Nat) (ks : List Str) (st : Stmt) : Prop where
  ex : ∃ f fd, Fun K x x st f fd ∧ mg x = some (.ref f) ∧ KBinds K fd ps ks (gN n) (gN n)
structure Kal (P : Program) (w : World) (K : PySem.W.Frag) (mg : Str → Option Value) (base : Heap) (k : Nat) (x : Str) (ps : List Str) (n : Nat) (ks : List Str) (g : List D → M D) : Prop where
  ex : ∃ f fd, FnOk P w K mg base (L2.CX P w) k f fd ps (DSp K mg g) ∧ mg x = some (.ref f) ∧ PySem.W.keepIn K (.ref f) = true ∧ KBinds K fd ps ks (gN n) (gN n)
theorem kal_of {x : Str} {ps ks : List Str} {n : Nat} {st : Stmt} {k : Nat} {g : List D → M D} (D0 : Kff K mg x ps n ks st) (h : ∀ f fd, Fun K x x st f fd → FnOk P w K mg base (L2.CX P w) k f fd ps (DSp K mg g)) : Kal P w K mg base k x ps n ks g := by
  obtain ⟨f, fd, F, hm, hb⟩ := D0.ex
  exact ⟨f, fd, h f fd F, hm, F.kp, hb⟩
theorem vals_app : ∀ {vs zs : List V} {us ws : List Value}, Vals vs us → Vals zs ws → Vals (vs ++ zs) (us ++ ws)
  | _, _, _, _, .nil, h => h
  | _, _, _, _, .cons r t, h => .cons r (vals_app t h)
theorem kff_mk {x : Str} {ps ks : List Str} {n : Nat} {st : Stmt} {f : Addr} {oc : Value} {od an : Option Addr} {osl : Array (Option Value)} {kV doc pm cdv ct : Value} {h : Heap} (X : K.In h) (G : h.Ns mainGlobals mg)
    (a : PySem.W.nsIn K mainGlobals x = some (some (.ref f))) (l : K.lookup f = some ⟨oc, od, .func (PySem.W.fnOf x x (defArgs st) (defBody st) (defScope st) .none kV doc pm an cdv ct), osl⟩) (c : PySem.W.codeIn K cdv x = true) (kp : PySem.W.keepIn K (.ref f) = true) (hp : 0 < ps.length)
    (hb : ∀ (kV doc pm : Value) (an : Option Addr) (cdv ct : Value) (us ws : List Value), us.length = n → us.length + ws.length = ps.length → bindArgs (PySem.W.fnOf x x (defArgs st) (defBody st) (defScope st) .none kV doc pm an cdv ct) ⟨us, ks.zip ws⟩ = pure (ps.zip (us ++ ws))) : Kff K mg x ps n ks st := by
  refine ⟨f, _, fun_mk (st := st) l c kp, PySem.W.mg_of X G a, ⟨fun s us ws _ hl => ?_, fun {vs us zs ws} r r2 => ?_⟩⟩
  · by_cases hu : us.length = n
    · unfold gN at hl ⊢
      rw [if_pos hu] at hl ⊢
      exact .of_eq (hb _ _ _ _ _ _ us ws hu (by rw [← hl, List.length_append]))
    · unfold gN at hl
      rw [if_neg hu] at hl
      have : ps.length = 0 := hl.symm
      omega
  · unfold gN
    rw [r.length]
    split
    · exact vals_app r r2
    · exact .nil
/-- f(k = v, ..) -/
theorem pe_callK0 {CX : CXT} {k : Nat} {f : Addr} {fd : FuncData} {ps ks : List Str} {sp : Sp} {E : XK} {tk : TA} {g : List Value → List Value → List Value} {gV : List V → List V → List V} {x : Str} (F : FnOk X.prog X.w X.K X.mg X.base CX k f fd ps sp) (hr : Room k X.A) (hg : Gl X x) (hm : X.mg x = some (.ref f)) (hk : PySem.W.keepIn X.K (.ref f) = true) (hb : KBinds X.K fd ps ks g gV) (hx : Passes CX X E)
    (hkw : PK X kws tk) (hall : (backToKw pos (keywordEach kws X.env)).all (·.1.isSome) = true := by rfl) (hks : (backToKw pos (keywordEach kws X.env)).filterMap (·.1) = ks := by rfl)
    (hdb : (x == ("__debug__" : Str)) = false := by decide) (hpl : ((backTo pos (starEach [] X.env)).any (·.1) || (backToKw pos (keywordEach kws X.env)).any (·.1.isNone)) = false := by rfl) :
    PE X (.Call (.Name x p) [] kws pos) (tCallK sp gV E tNil tk) := by
  refine ⟨fun pins s σ H Q I h => ?_⟩
  refine wpAny_Call_Name_kw (ld_glob I hg hm ?_ hdb)
  refine PySem.W.callWith_KW0 (h₀ := X.base) I.ok.mod.kin hk hall ?_ hpl
  refine thn (hkw.run pos pins s σ H _ I h) fun ws s2 ⟨zs, H2, I2, rz, q2⟩ => ⟨I2.kIn, ?_⟩
  rw [hks]
  exact run_fnk (us := []) (vs := []) F hr hb hx I2 .nil rz q2
/-- f(k = v, ..): a def that raises nothing here -/
theorem ed_kal0 {k : Nat} {g : List D → M D} {x : Str} {ps ks : List Str} (C : Kal X.prog X.w X.K X.mg X.base k x ps 0 ks g) (hr : Room k X.A) (ha : KD X fa W kws fk) (hg : Gl X x := by rfl)
    (hall : (backToKw pos (keywordEach kws X.env)).all (·.1.isSome) = true := by rfl) (hks : (backToKw pos (keywordEach kws X.env)).filterMap (·.1) = ks := by rfl)
    (hdb : (x == ("__debug__" : Str)) = false := by decide) (hpl : ((backTo pos (starEach [] X.env)).any (·.1) || (backToKw pos (keywordEach kws X.env)).any (·.1.isNone)) = false := by rfl) :
    ED X fa W (.Call (.Name x p) [] kws pos) (dCall (fun ds => M.quiet (g ds)) fk) := by
  obtain ⟨f, fd, F, hm, hk, hb⟩ := C.ex
  obtain ⟨t, pk, kk⟩ := ha
  refine ⟨_, pe_callK0 F hr hg hm hk hb passF pk hall hks hdb hpl, fun σ F H ρ s Q h1 h2 h3 h => ?_⟩
  refine kk.then Good.tgt h1 h2 h3 h fun xs s1 vs F1 H1 e1 o1 r1 v1 h' => ?_
  refine ⟨fa, F1, s1, xs, e1.fh, o1, r1, ?_⟩
  change Good X fa (W σ) F1 H1 (M.quiet (g xs) s1) Q at h'
  unfold M.quiet at h'
  cases q : g xs s1 with
  | bad => rw [q] at h'; exact h'
  | err e s' => rw [q] at h'; exact h'.elim
  | ok d s' => rw [q] at h'; exact h'
end
end
end DL

set_option Elab.async false
set_option linter.all false
set_option maxRecDepth 100000
set_option maxHeartbeats 2000000
/-! The data layer: a text some times; list(x), new. -/
namespace DL
open PySem PySem.Spec PyProof.Rows L2
def mulS (x : Str) (n : Int) : Str := if n < 1 then Str.empty else if (n == 1 || x.length == 0) = true then x else ⟨(List.replicate n.toNat x.cps).foldl (· ++ ·) #[]⟩
def mulSD : D → D → Option D
  | .str x, .int n => if -1000 ≤ n ∧ n ≤ 1000 ∧ x.length ≤ 1000 ∧ (mulS x n).length ≤ sizeLine then some (.str (mulS x n)) else none
  | _, _ => none
section
variable {X : Cx} {fa : Option FA} {W : L2.St → XK}
def rMulS : R2 := fun x y H Q => ∃ z n, x = .str z ∧ y = .int n ∧ (-1000 ≤ n ∧ n ≤ 1000 ∧ z.length ≤ 1000 ∧ (mulS z n).length ≤ sizeLine) ∧ Q (.str (mulS z n)) H
theorem op_mulS : OpR X (binaryOp .Mult) rMulS := by
  intro pins s σ H x y v u Q I rx ry h
  obtain ⟨z, n, rfl, rfl, ⟨h1, h2, h3, h4⟩, q⟩ := h
  obtain ⟨t, rfl⟩ := rx
  obtain ⟨t', rfl⟩ := ry
  refine PySem.P.mul_str ?_ ?_ ?_ ?_
  · rw [decide_eq_false (by omega), decide_eq_false (by omega)]; rfl
  · intro h5 _ h6
    have : (1000 : Int) ≤ (2 ^ 63 - 1) / n := by
      rw [Int.le_ediv_iff_mul_le (by omega)]
      omega
    omega
  · intro h5 _
    unfold Builtin.Str.tooLong
    have hz : sizeLine = 16777216 := rfl
    refine decide_eq_false ?_
    have : z.length * n.toNat ≤ 1000 * 1000 := Nat.mul_le_mul h3 (by omega)
    rw [hz]
    omega
  · unfold mulS at h4 q
    by_cases h5 : n < 1
    · rw [if_pos h5] at h4 q ⊢
      exact ⟨h4, .str Str.empty, H, I.tok _, ⟨_, rfl⟩, q⟩
    · rw [if_neg h5] at h4 q ⊢
      by_cases h6 : (n == 1 || z.length == 0) = true
      · rw [if_pos h6] at h4 q ⊢
        exact ⟨.str z, H, I, ⟨_, rfl⟩, q⟩
      · rw [if_neg h6] at h4 q ⊢
        exact ⟨h4, .str _, H, I.tok _, ⟨_, rfl⟩, q⟩
theorem ok_mulS : OpOk X fa rMulS mulSD := by
  intro F H s x y a b Q h1 h2 ra rb h
  cases ra with
  | str z =>
    cases rb with
    | int n =>
      by_cases hl : -1000 ≤ n ∧ n ≤ 1000 ∧ z.length ≤ 1000 ∧ (mulS z n).length ≤ sizeLine
      · rw [show mulSD (.str z) (.int n) = some (.str (mulS z n)) from if_pos hl] at h
        exact ⟨z, n, rfl, rfl, hl, GoodO.here h1 h2 (.str _) h⟩
      · rw [show mulSD (.str z) (.int n) = none from if_neg hl] at h
        exact h.elim
    | _ => exact h.elim
  | _ => cases rb <;> exact h.elim
variable {e : Expr} {p pos : Pos} {fl : Env' → M (List D)}
theorem nd_listA {x : Str} (hm : X.mg x = none) (hc : X.calm = true) (ha : LD X fa W [e] fl) (hv : bootBuiltins x = some (.type "list") := by decide +kernel) (hg : Gl X x := by rfl) (hn : x ≠ "__name__" := by decide) (hdb : (x == ("__debug__" : Str)) = false := by decide) (he : starEach [e] X.env = (false, eval e X.env) :: starEach [] X.env := by rfl) (hpl : (backTo pos (starEach [] X.env)).any (·.1) = false := by rfl) :
    ND X fa W (.Call (.Name x p) [e] [] pos) (fun ρ => (fl ρ).bind fun xs => M.lift (listNA xs)) := by
  obtain ⟨ta, pa, ka⟩ := ha
  refine ⟨_, pe_callTy (call_listA hc) hg hm hv pa hn hdb he hpl, fun σ F H ρ s Q h1 h2 h3 h => ?_⟩
  refine ka.then GoodN.tgt h1 h2 h3 h fun xs s1 vs F1 H1 e1 o1 r1 v1 h' => ?_
  have fin : ∀ (us : List V) (ds : List D), RepL X.K fa F1 ds us → GoodN X fa (W σ) F1 H1 (.ok ds s1) Q → ∀ l, H1 l = none → Q (.ref l) (upd H1 l (.lst us)) := fun us ds rl hg l hl => by
    have fl : F1 l = none := Same.free e1.fh hl
    refine hg l us F1 (upd H1 l (.lst us)) ⟨Same.refl _, fun b u z => ?_, fun b u z _ => ?_, fun _ _ => rfl, fun b z => ?_⟩ (o1.ext_same (Same.refl _) (fun b u z => by rw [upd_ne (ne_of_none z hl)]; exact z) fun _ _ => rfl) hl fl upd_same rl
    · rw [upd_ne (ne_of_none z fl)]; exact e1.fh b u z
    · rw [upd_ne (ne_of_none z hl)]; exact z
    · have : b ≠ l := fun q => z (q ▸ hl)
      rw [upd_ne this]; exact z
  cases r1 with
  | nil => exact h'.elim
  | cons r t =>
    cases t with
    | cons _ _ => cases r <;> exact h'.elim
    | nil =>
      cases r with
      | lst hq r => exact .inl ⟨_, _, rfl, .inl (SqL.of (e1.fh _ _ hq)), fin _ _ r h'⟩
      | tup hq r => exact .inl ⟨_, _, rfl, .inr (same_seqT e1.fh hq), fin _ _ r h'⟩
      | str z =>
        by_cases hz : z.cps.size ≤ sizeLine
        · have h' : GoodN X fa (W σ) F1 H1 (M.lift (listNA [.str z]) s1) Q := h'
          rw [show listNA [.str z] = some (signsD z) from if_pos hz] at h'
          exact .inr ⟨z, rfl, hz, fin _ _ (signs_rep _) h'⟩
        · have h' : GoodN X fa (W σ) F1 H1 (M.lift (listNA [.str z]) s1) Q := h'
          rw [show listNA [.str z] = none from if_neg hz] at h'
          exact h'.elim
      | _ => exact h'.elim
end
end DL

set_option Elab.async false
set_option linter.all false
set_option maxRecDepth 100000
set_option maxHeartbeats 2000000
/-! The data layer: cuts, texts. -/
namespace DL
open PySem PySem.Spec PyProof.Rows L2
theorem sIx_pos {n d : Nat} {v : Int} (h : 0 ≤ v) : HT.sIx n d (some v) = min v.toNat n := by
  unfold HT.sIx
  exact if_neg (by omega)
theorem take_min {α : Type} (xs : List α) (k : Nat) : xs.take (min k xs.length) = xs.take k := by
  rcases Nat.le_total k xs.length with h | h
  · rw [Nat.min_eq_left h]
  · rw [Nat.min_eq_right h, List.take_of_length_le (Nat.le_refl _), List.take_of_length_le h]
theorem drop_min {α : Type} (xs : List α) (k : Nat) : xs.drop (min k xs.length) = xs.drop k := by
  rcases Nat.le_total k xs.length with h | h
  · rw [Nat.min_eq_left h]
  · rw [Nat.min_eq_right h, List.drop_of_length_le (Nat.le_refl _), List.drop_of_length_le h]
theorem cut_hi {α : Type} (xs : List α) {v : Int} (h : 0 ≤ v) : (xs.drop (HT.sIx xs.length 0 none)).take (HT.sIx xs.length xs.length (some v) - HT.sIx xs.length 0 none) = xs.take v.toNat := by
  rw [sIx_pos h, HT.sIx_none, List.drop_zero, Nat.sub_zero, take_min]
theorem cut_lo {α : Type} (xs : List α) {v : Int} (h : 0 ≤ v) : (xs.drop (HT.sIx xs.length 0 (some v))).take (HT.sIx xs.length xs.length none - HT.sIx xs.length 0 (some v)) = xs.drop v.toNat := by
  rw [sIx_pos h, HT.sIx_none, drop_min]
  refine List.take_of_length_le ?_
  rw [List.length_drop]
  omega
section
variable {s : FS} {Q : D → FS → Prop} {v : Int}
theorem Rm.slLhi {xs : List D} (h : 0 ≤ v) (q : Q (.lst (xs.take v.toNat)) s) : Rm (M.lift (slD (.lst xs) none (some v))) s Q := Rm.lift (congrArg (fun l => some (D.lst l)) (cut_hi xs h)) q
theorem Rm.slLlo {xs : List D} (h : 0 ≤ v) (q : Q (.lst (xs.drop v.toNat)) s) : Rm (M.lift (slD (.lst xs) (some v) none)) s Q := Rm.lift (congrArg (fun l => some (D.lst l)) (cut_lo xs h)) q
theorem Rm.slThi {xs : List D} (h : 0 ≤ v) (q : Q (.tup (xs.take v.toNat)) s) : Rm (M.lift (slD (.tup xs) none (some v))) s Q := Rm.lift (congrArg (fun l => some (D.tup l)) (cut_hi xs h)) q
theorem Rm.slTlo {xs : List D} (h : 0 ≤ v) (q : Q (.tup (xs.drop v.toNat)) s) : Rm (M.lift (slD (.tup xs) (some v) none)) s Q := Rm.lift (congrArg (fun l => some (D.tup l)) (cut_lo xs h)) q
theorem Rm.slS {z : Str} {lo hi : Option Int} (h : z.length ≤ sizeLine) (q : Q (.str (cutS z lo hi)) s) : Rm (M.lift (slD (.str z) lo hi)) s Q := Rm.lift (if_pos h) q
theorem Rm.adds {a b : Str} (h : a.length + b.length ≤ sizeLine) (q : Q (.str (a ++ b)) s) : Rm (M.lift (addD (.str a) (.str b))) s Q := Rm.lift (if_pos h) q
theorem Rm.lenS {z : Str} (h : z.length ≤ sizeLine) (q : Q (.int z.length) s) : Rm (M.lift (lenD [.str z])) s Q := Rm.lift (if_pos h) q
theorem cutS_len (z : Str) (lo hi : Option Int) : (cutS z lo hi).length ≤ z.length := by
  unfold cutS
  show (List.toArray _).size ≤ z.cps.size
  rw [List.size_toArray]
  refine Nat.le_trans (List.length_take_le' _ _) ?_
  rw [List.length_drop, Array.length_toList]
  omega
theorem strApp_len (a b : Str) : (a ++ b).length = a.length + b.length := by
  show (a.cps ++ b.cps).size = a.cps.size + b.cps.size
  rw [Array.size_append]
end
section
variable {ρ : Env'} {s : FS} {f1 f2 f3 : Env' → M D} {g g' : D → D → Option D} {Q : D → FS → Prop} {QB : Bool → FS → Prop}
def Rm.chainK (g' : D → D → Option D) (f3 : Env' → M D) (ρ : Env') (y : D) (k : Bool) : M D := if k = true then (f3 ρ).bind fun w => M.lift (g' y w) else M.pure (.bl false)
theorem Rm.chain (h : Rm (f1 ρ) s fun x s => Rm (f2 ρ) s fun y s => Rm (M.lift (g x y)) s fun z s => Rm (M.lift (blD z)) s fun k s => Rm (Rm.chainK g' f3 ρ y k) s Q) : Rm (dChain g g' f1 f2 f3 ρ) s Q :=
  Rm.bind (h.mono fun _ _ h => Rm.bind (h.mono fun _ _ h => Rm.bind (h.mono fun _ _ h => Rm.bind h)))
theorem Rm.chainT {y : D} {k : Bool} (e : k = true) (h : Rm (f3 ρ) s fun w s => Rm (M.lift (g' y w)) s Q) : Rm (Rm.chainK g' f3 ρ y k) s Q := by
  subst e
  exact Rm.bind h
theorem Rm.chainF {y : D} {k : Bool} (e : k = false) (h : Q (.bl false) s) : Rm (Rm.chainK g' f3 ρ y k) s Q := by
  subst e
  exact ⟨h⟩
theorem Rm.chainC {y : D} {k : Bool} (h1 : k = true → Rm (f3 ρ) s fun w s => Rm (M.lift (g' y w)) s Q) (h2 : k = false → Q (.bl false) s) : Rm (Rm.chainK g' f3 ρ y k) s Q := by
  cases k with
  | true => exact Rm.bind (h1 rfl)
  | false => exact ⟨h2 rfl⟩
theorem Rm.cchain (h : Rm (dChain g g' f1 f2 f3 ρ) s fun z s => Rm (M.lift (blD z)) s QB) : Rm (cChain g g' f1 f2 f3 ρ) s QB := Rm.bind h
end
theorem bls_map {α : Type} (p : α → Bool) : ∀ xs : List α, blsD (xs.map fun x => D.bl (p x)) = some (xs.map p)
  | [] => rfl
  | x :: xs => by
    show (blsD (xs.map fun x => D.bl (p x))).map _ = _
    rw [bls_map p xs]
    rfl
theorem all_map {α : Type} (p : α → Bool) (xs : List α) : allD [.lst (xs.map fun x => D.bl (p x))] = some (.bl (xs.all p)) := by
  show (blsD _).map _ = _
  rw [bls_map]
  show some (D.bl ((xs.map p).all id)) = _
  rw [List.all_map]
  rfl
section
variable {ρ : Sts} {s : FS} {f : Env' → M D} {fl : Env' → M (List D)} {Q : Fl × Sts → FS → Prop} {i : Nat}
theorem Rm.setM (h : Rm (f (mask ρ)) s fun x s => Q (.nx, ρ.set i (.d x)) s) : Rm (gSet i (vMask f) ρ) s Q := Rm.set (Rm.vmask h)
theorem Rm.setV (h : Rm (f (view ρ)) s fun x s => Rm (M.lift (scalD x)) s fun x s => Q (.nx, ρ.set i (.d x)) s) : Rm (gSet i (vView f) ρ) s Q := Rm.set (Rm.vview h)
theorem Rm.setN (h : Rm (fl (mask ρ)) s fun x s => Q (.nx, ρ.set i (.ol x)) s) : Rm (gSet i (vNew fl) ρ) s Q := Rm.set (Rm.vnew h)
theorem Rm.mulSp {x : Str} {n : Int} {Q : D → FS → Prop} (h : -1000 ≤ n ∧ n ≤ 1000 ∧ x.length ≤ 1000 ∧ (mulS x n).length ≤ sizeLine) (q : Q (.str (mulS x n)) s) : Rm (M.lift (mulSD (.str x) (.int n))) s Q := Rm.lift (if_pos h) q
end
end DL

set_option Elab.async false
set_option linter.all false
set_option maxRecDepth 100000
set_option maxHeartbeats 2000000
/-! The data layer: the keys of a dict, walked; copies of dicts. -/
namespace DL
open PySem PySem.Spec PyProof.Rows L2
def IOkP (Pre : Hp → L2.St → Prop) (X : Cx) (fa : Option FA) (W : L2.St → XK) (wi : TI) (f : Env' → M (List D)) : Prop :=
  ∀ (σ : L2.St) (F H : Hp) (ρ : Env') (s : FS) (R : It → Hp → Prop), Pre F σ → Same F H → FeedOk X.K fa F H s → EnvOk X.K fa F σ ρ → GoodI X fa (W σ) F H (f ρ s) R → wi σ H R
def NOkP (Pre : Hp → L2.St → Prop) (X : Cx) (fa : Option FA) (W : L2.St → XK) (t : TE) (f : Env' → M (List D)) : Prop :=
  ∀ (σ : L2.St) (F H : Hp) (ρ : Env') (s : FS) (Q : VK), Pre F σ → Same F H → FeedOk X.K fa F H s → EnvOk X.K fa F σ ρ → GoodN X fa (W σ) F H (f ρ s) Q → t σ H Q
section
variable {X : Cx} {fa : Option FA} {Wσ : L2.St → XK}
theorem nok_lcP {Pre : Hp → L2.St → Prop} {tg iter elt : Expr} {it : Env' → M (List D)} {b : D → Option Asg} {c : Env' → M Bool} {f : Env' → M D} {wi : TI} {vs ns : List Nat} (ki : IOkP Pre X fa Wσ wi it) (hin : ∀ n ∈ ns, n ∈ vs) (hni : ∀ n ∈ vs, n ∈ ns) :
    NOkP Pre X fa Wσ (tLc wi (gStar X ns b) (tStarB X fa Wno c) (tStar X fa Wno f) vs) (dLc it b c f) := by
  intro σ F H ρ s Q hp h1 h2 h3 hg
  refine ki σ F H ρ s _ hp h1 h2 h3 ?_
  change GoodN X fa (Wσ σ) F H ((it ρ s).bnd _) Q at hg
  generalize it ρ s = r at hg
  cases r with
  | bad => exact hg
  | err e s' => exact hg
  | ok xs s0 =>
    intro J F1 H1 e1 o1 wj D' hD
    change GoodN X fa (Wσ σ) F H ((if xs.length ≤ sizeLine then M.quiet (lcE b c f xs ρ) else M.bad) s0) Q at hg
    by_cases hl : xs.length ≤ sizeLine
    · rw [if_pos hl] at hg
      obtain ⟨ys, s9, hys, hg⟩ := quiet_ok (P := fun r => GoodN X fa (Wσ σ) F H r Q) (fun z => z) hg
      obtain ⟨G, Y, wk, hG, hY⟩ := wj.ex
      have nf : Nfa fa D' := fun φ q z => by
        obtain ⟨g1, g2, g3, g4⟩ := o1 φ q
        rw [z, hD] at g3
        cases g3
      have fD : F1 D' = none := Same.free e1.fh hD
      have C0 : CSt X fa F1 H1 D' F1 (upd H1 D' (.lst [])) [] s0 := by
        refine ⟨⟨Same.refl _, fun b u z => ?_, fun b u z _ => ?_, fun _ _ => rfl, fun b z => ?_⟩, fun φ q => ?_, fD, hD, nf, [], upd_same, .nil⟩
        · rw [upd_ne (ne_of_none z fD)]; exact e1.fh b u z
        · rw [upd_ne (ne_of_none z hD)]; exact z
        · have : b ≠ D' := fun q => z (q ▸ hD)
          rw [upd_ne this]; exact z
        · obtain ⟨g1, g2, g3, g4⟩ := o1 φ q
          exact ⟨g1, g2, by rw [upd_ne (nf φ q)]; exact g3, g4⟩
      refine lc_it wk (fun i H' => ∃ F' acc s' zs, CSt X fa F1 H1 D' F' H' acc s' ∧ lcE b c f (xs.drop i) ρ s' = .ok zs s9 ∧ acc ++ zs = ys ∧ acc.length ≤ i) ⟨F1, [], s0, ys, C0, hys, rfl, Nat.zero_le _⟩ ?_ ?_ ?_
      · rintro i H' _ ⟨F', acc, s', zs, C, _⟩
        exact hG F' H' C.ext.ff C.ext.fh
      · rintro i x H' H3 hi ⟨F', acc, s', zs, C, hz, ha, hlen⟩ y
        have hx : xs[i]? = some xs[i] := List.getElem?_eq_getElem hi
        obtain ⟨F3, a1, a2, a3, a4, r⟩ := hY i _ F' H' x H3 hx C.ext.ff C.ext.fh y
        have C3 := C.step (ext_same a1 a2 a3 a4) (C.fd.ext_same a1 a3 a4)
        rw [List.drop_eq_getElem_cons hi] at hz
        change ((M.lift (b xs[i]) s').bnd _) = _ at hz
        obtain ⟨as, s1, hb0, hz1⟩ := bnd_ok hz
        obtain ⟨hb, es1⟩ := lift_ok hb0
        rw [es1] at hz1
        change ((c (setE as ρ) s').bnd _) = _ at hz1
        obtain ⟨k, s2, hc, hz2⟩ := bnd_ok hz1
        refine lc_turn C3 (h3.mono (e1.ff.trans (C.ext.ff.trans a1))) r hb hc hin hni fun σ2 F4 H4 C4 e34 en2 en hw => ?_
        cases k with
        | false =>
          refine iteF ⟨F4, acc, s2, zs, C4, ?_, ha, by omega⟩
          rw [if_neg Bool.false_ne_true] at hz2
          exact hz2
        | true =>
          rw [if_pos rfl] at hz2
          change ((f (setE as ρ) s2).bnd _) = _ at hz2
          obtain ⟨y', s3, hf, hz3⟩ := bnd_ok hz2
          change ((lcE b c f (xs.drop (i + 1)) ρ s3).bnd _) = _ at hz3
          obtain ⟨zs', s4, hz4, hq⟩ := bnd_ok hz3
          cases hq
          refine iteT ⟨F4, setE as ρ, s2, C4.ext.fh, C4.fd, en2, ?_⟩
          rw [hf]
          intro w F5 H5 e5 o5 r5
          have C5 := C4.step e5 o5
          obtain ⟨av, hD5, rl⟩ := id C5.at_
          refine ⟨av, hD5, by rw [← rl.length]; omega, F5, acc ++ [y'], s3, zs', C5.add hD5 r5, hz4, by rw [List.append_assoc]; exact ha, by simp; omega⟩
      · rintro H' ⟨F', acc, s', zs, C, hz, ha, hlen⟩
        rw [List.drop_length] at hz
        cases hz
        rw [List.append_nil] at ha
        subst ha
        obtain ⟨av, hD', rl⟩ := C.at_
        refine hg D' av F' H' (e1.trans C.ext) C.fd ?_ C.fD hD' rl
        cases z : H D' with
        | none => rfl
        | some u => exact absurd hD (e1.al D' (by rw [z]; simp))
    · rw [if_neg hl] at hg
      exact hg.elim

/-- the dict at slot i stands locked -/
def LockAt (i : Nat) (F : Hp) (σ : L2.St) : Prop := ∃ d o vs, σ[i]? = some (some (.ref d)) ∧ F d = some (.frz o (.dK vs))
def keyV : Key → D
  | .inl i => .int i
  | .inr x => .str x
def keysD (i : Nat) : Env' → M (List D) := fun ρ => match ρ[i]?.join with
  | some (.dic kvs) => M.pure (kvs.map fun kv => keyV kv.1)
  | _ => M.bad
theorem repK_get {K : PySem.W.Frag} {F : Hp} : ∀ {ds : List (Key × D)} {vs : List (Key × V)} {i : Nat} {k : Key} {v : V}, RepK K fa F ds vs → vs[i]? = some (k, v) → ∃ d, ds[i]? = some (k, d) ∧ Rep K fa F d v
  | _, _, i, _, _, .nil, h => by simp at h
  | _, _, 0, _, _, .cons r _, h => by simp at h; obtain ⟨rfl, rfl⟩ := h; exact ⟨_, rfl, r⟩
  | _, _, i + 1, k, v, .cons _ t, h => by
    obtain ⟨d, e, r⟩ := repK_get (i := i) t (by simpa using h)
    exact ⟨d, by simpa using e, r⟩
theorem repK_len {K : PySem.W.Frag} {F : Hp} : ∀ {ds : List (Key × D)} {vs : List (Key × V)}, RepK K fa F ds vs → ds.length = vs.length
  | _, _, .nil => rfl
  | _, _, .cons _ t => congrArg (· + 1) (repK_len t)
theorem iok_keys {i : Nat} : IOkP (LockAt i) X fa Wσ (iKeys (tVar i)) (keysD i) := by
  intro σ F H ρ s R hp h1 h2 h3 hg
  obtain ⟨d, o, vs, hσ, hF⟩ := hp
  refine ⟨.ref d, hσ, d, o, rfl, .inl ⟨vs, h1 _ _ hF, ?_⟩⟩
  unfold keysD at hg
  cases q : ρ[i]?.join with
  | none => rw [q] at hg; exact hg.elim
  | some x =>
    rw [q] at hg
    obtain ⟨v, hv, r⟩ := h3.at_ i x (by
      cases z : ρ[i]? with
      | none => rw [z] at q; cases q
      | some u => rw [z] at q; cases u with
        | none => cases q
        | some y => cases q; rfl)
    rw [hσ] at hv
    cases hv
    cases r with
    | @dic _ xs vs' hd rk =>
      have e : vs' = vs := by
        rcases hd with hd | ⟨o', hd⟩
        · rw [hF] at hd; cases hd
        · rw [hF] at hd; cases hd; rfl
      subst e
      refine hg _ F H (Ext.refl h1) h2 (wj_here (G := fun H => H d = some (.frz o (.dK vs'))) (Y := fun i H x H' => H' = H ∧ ∃ k v, vs'[i]? = some (k, v) ∧ x = kV k) ?_ ?_ ?_)
      · rw [List.length_map, repK_len rk]
        exact walk_keys
      · exact fun F2 H2 a1 a2 => a2 _ _ (a1 _ _ hF)
      · rintro j x F2 H2 v H3 hx a1 a2 ⟨rfl, k, w, hk, rfl⟩
        refine ⟨rfl, ?_⟩
        obtain ⟨dd, hd2, _⟩ := repK_get rk hk
        rw [List.getElem?_map, hd2] at hx
        cases hx
        cases k with
        | inl n => exact .int n
        | inr n => exact .str n
    | _ => exact hg.elim
/-- the same data, another floor -/
structure Swap (K : PySem.W.Frag) (F F' : Hp) : Prop where
  lst : ∀ a xs, F a = some (.lst xs) → F' a = some (.lst xs)
  tup : ∀ a xs, SqT K F a xs → SqT K F' a xs
  sql : ∀ a xs, SqL K F a xs → SqL K F' a xs
  dic : ∀ a vs, Rd F a (.dK vs) → Rd F' a (.dK vs)
mutual
theorem Swap.rep {K : PySem.W.Frag} {F F' : Hp} (e : Swap K F F') : ∀ {d : D} {v : V}, Rep K fa F d v → Rep K fa F' d v
  | _, _, .non => .non
  | _, _, .bl b => .bl b
  | _, _, .int i => .int i
  | _, _, .str x => .str x
  | _, _, .feed a h => .feed a h
  | _, _, .opq v => .opq v
  | _, _, .scr h => .scr (e.sql _ _ h)
  | _, _, .tup h r => .tup (e.tup _ _ h) (Swap.repL e r)
  | _, _, .lst h r => .lst (e.lst _ _ h) (Swap.repL e r)
  | _, _, .dic h r => .dic (e.dic _ _ h) (Swap.repK e r)
theorem Swap.repL {K : PySem.W.Frag} {F F' : Hp} (e : Swap K F F') : ∀ {ds : List D} {vs : List V}, RepL K fa F ds vs → RepL K fa F' ds vs
  | _, _, .nil => .nil
  | _, _, .cons r t => .cons (Swap.rep e r) (Swap.repL e t)
theorem Swap.repK {K : PySem.W.Frag} {F F' : Hp} (e : Swap K F F') : ∀ {ds : List (Key × D)} {vs : List (Key × V)}, RepK K fa F ds vs → RepK K fa F' ds vs
  | _, _, .nil => .nil
  | _, _, .cons r t => .cons (Swap.rep e r) (Swap.repK e t)
end
theorem swap_lock {K : PySem.W.Frag} {F : Hp} {d : Addr} {vs : List (Key × V)} {o : Obj} (h : F d = some (.dK vs)) : Swap K F (upd F d (.frz o (.dK vs))) := by
  refine ⟨fun a xs e => ?_, fun a xs e => ?_, fun a xs e => ?_, fun a us e => ?_⟩
  · by_cases z : a = d
    · subst z; rw [h] at e; cases e
    · rw [upd_ne z]; exact e
  · rcases e with (e | ⟨o', e⟩) | e
    · by_cases z : a = d
      · subst z; rw [h] at e; cases e
      · exact .inl (.inl (by rw [upd_ne z]; exact e))
    · by_cases z : a = d
      · subst z; rw [h] at e; cases e
      · exact .inl (.inr ⟨o', by rw [upd_ne z]; exact e⟩)
    · exact .inr e
  · rcases e with (e | ⟨o', e⟩) | e
    · by_cases z : a = d
      · subst z; rw [h] at e; cases e
      · exact .inl (.inl (by rw [upd_ne z]; exact e))
    · by_cases z : a = d
      · subst z; rw [h] at e; cases e
      · exact .inl (.inr ⟨o', by rw [upd_ne z]; exact e⟩)
    · exact .inr e
  · by_cases z : a = d
    · subst z
      rcases e with e | ⟨o', e⟩
      · rw [h] at e; cases e; exact .inr ⟨o, upd_same⟩
      · rw [h] at e; cases e
    · rcases e with e | ⟨o', e⟩
      · exact .inl (by rw [upd_ne z]; exact e)
      · exact .inr ⟨o', by rw [upd_ne z]; exact e⟩
theorem swap_unlock {K : PySem.W.Frag} {F : Hp} {d : Addr} {vs : List (Key × V)} {o : Obj} (h : F d = some (.frz o (.dK vs))) : Swap K F (upd F d (.dK vs)) := by
  refine ⟨fun a xs e => ?_, fun a xs e => ?_, fun a xs e => ?_, fun a us e => ?_⟩
  · by_cases z : a = d
    · subst z; rw [h] at e; cases e
    · rw [upd_ne z]; exact e
  · rcases e with (e | ⟨o', e⟩) | e
    · by_cases z : a = d
      · subst z; rw [h] at e; cases e
      · exact .inl (.inl (by rw [upd_ne z]; exact e))
    · by_cases z : a = d
      · subst z; rw [h] at e; cases e
      · exact .inl (.inr ⟨o', by rw [upd_ne z]; exact e⟩)
    · exact .inr e
  · rcases e with (e | ⟨o', e⟩) | e
    · by_cases z : a = d
      · subst z; rw [h] at e; cases e
      · exact .inl (.inl (by rw [upd_ne z]; exact e))
    · by_cases z : a = d
      · subst z; rw [h] at e; cases e
      · exact .inl (.inr ⟨o', by rw [upd_ne z]; exact e⟩)
    · exact .inr e
  · by_cases z : a = d
    · subst z
      rcases e with e | ⟨o', e⟩
      · rw [h] at e; cases e
      · rw [h] at e; cases e; exact .inl upd_same
    · rcases e with e | ⟨o', e⟩
      · exact .inl (by rw [upd_ne z]; exact e)
      · exact .inr ⟨o', by rw [upd_ne z]; exact e⟩
theorem pe_or {e : Expr} {t t' : TE} (h : PE X e t) (h' : PE X e t') : PE X e (fun σ H Q => t σ H Q ∨ t' σ H Q) :=
  ⟨fun pins s σ H Q I q => q.elim (h.run pins s σ H Q I) (h'.run pins s σ H Q I)⟩
theorem same_upd2 {F H : Hp} {d : Addr} {u : HO} (h : Same F H) : Same (upd F d u) (upd H d u) := fun b o e => by
  by_cases z : b = d
  · subst z; rw [upd_same] at e ⊢; exact e
  · rw [upd_ne z] at e ⊢; exact h b o e
theorem feed_upd {K : PySem.W.Frag} {F H : Hp} {s : FS} {d : Addr} {u u' : HO} (h : FeedOk K fa F H s) (hd : F d = some u') (hu : ∀ xs, u' ≠ .lst xs) : FeedOk K fa (upd F d u) (upd H d u) s := fun φ e => by
  obtain ⟨a1, a2, a3, a4⟩ := h φ e
  have n1 : φ.a ≠ d := fun z => by rw [z, hd] at a1; cases a1
  have n2 : φ.c ≠ d := fun z => by rw [z, hd] at a4; cases a4; exact hu _ rfl
  exact ⟨by rw [upd_ne n1]; exact a1, a2, by rw [upd_ne n1]; exact a3, by rw [upd_ne n2]; exact a4⟩
/-- a computation of a new list, over a locked dict, at a dict that is locked for it -/
theorem nok_lock {i : Nat} {t : TE} {f : Env' → M (List D)} (k : NOkP (LockAt i) X fa Wσ t f) (hf : ∀ ρ s, (∃ kvs, ρ[i]?.join = some (.dic kvs)) ∨ f ρ s = .bad) (hq : ∀ ρ s e s', f ρ s ≠ .err e s') : NOk X fa Wσ (fun σ H Q => t σ H Q ∨ tLockE t σ H Q) f := by
  intro σ F H ρ s Q h1 h2 h3 hg
  rcases hf ρ s with ⟨kvs, hk⟩ | hb
  · obtain ⟨v, hv, r⟩ := h3.at_ i (.dic kvs) (by
      cases z : ρ[i]? with
      | none => rw [z] at hk; cases hk
      | some u => rw [z] at hk; cases u with
        | none => cases hk
        | some y => cases hk; rfl)
    cases r with
    | @dic d _ vs hd rk =>
      rcases hd with hd | ⟨o, hd⟩
      · refine .inr ⟨d, .dK vs, h1 _ _ hd, True.intro, fun od => ?_⟩
        have sw := swap_lock (K := X.K) (o := od) hd
        refine k σ (upd F d (.frz od (.dK vs))) (upd H d (.frz od (.dK vs))) ρ s _ ⟨d, od, vs, hv, upd_same⟩ (same_upd2 h1) (feed_upd h2 hd (by intro _ z; cases z)) ⟨h3.len, fun j x hx => ?_⟩ ?_
        · obtain ⟨w, a1, a2⟩ := h3.at_ j x hx
          exact ⟨w, a1, sw.rep a2⟩
        · cases q : f ρ s with
          | bad => rw [q] at hg; exact hg.elim
          | err e s' => exact absurd q (hq _ _ _ _)
          | ok xs s' =>
            rw [q] at hg
            intro p us F2 H2 e2 o2 n1 n2 n3 r2
            have f2 : F2 d = some (.frz od (.dK vs)) := e2.ff _ _ upd_same
            have g2 : H2 d = some (.frz od (.dK vs)) := e2.fh _ _ f2
            have hpd : p ≠ d := fun z => by rw [z] at n2; rw [f2] at n2; cases n2
            refine ⟨g2, hg p us (upd F2 d (.dK vs)) (upd H2 d (.dK vs)) ⟨fun b u e => ?_, same_upd2 e2.fh, fun b u e nf => ?_, fun b e => ?_, fun b e => ?_⟩ (feed_upd o2 f2 (by intro _ z; cases z)) ?_ ?_ ?_ ((swap_unlock f2).repL r2)⟩
            · by_cases z : b = d
              · subst z; rw [upd_same]; rw [hd] at e; exact e
              · rw [upd_ne z]; exact e2.ff _ _ (by rw [upd_ne z]; exact e)
            · by_cases z : b = d
              · subst z; rw [upd_same]; rw [h1 _ _ hd] at e; exact e
              · rw [upd_ne z]; exact e2.hh _ _ (by rw [upd_ne z]; exact e) nf
            · by_cases z : b = d
              · subst z; rw [upd_same, hd]
              · rw [upd_ne z, e2.fr b (by rw [upd_ne z]; exact e), upd_ne z]
            · by_cases z : b = d
              · subst z; rw [upd_same]; simp
              · rw [upd_ne z]; exact e2.al b (by rw [upd_ne z]; exact e)
            · rw [upd_ne hpd] at n1; exact n1
            · rw [upd_ne hpd]; exact n2
            · rw [upd_ne hpd]; exact n3
      · exact .inl (k σ F H ρ s Q ⟨d, o, vs, hv, hd⟩ h1 h2 h3 hg)
  · rw [hb] at hg
    exact hg.elim
theorem lc_quiet {it : Env' → M (List D)} {b : D → Option Asg} {c : Env' → M Bool} {f : Env' → M D} (hi : ∀ ρ s e s', it ρ s ≠ .err e s') (ρ : Env') (s : FS) (e : Exc) (s' : FS) : dLc it b c f ρ s ≠ .err e s' := by
  intro h
  change ((it ρ s).bnd _) = _ at h
  cases q : it ρ s with
  | bad => rw [q] at h; cases h
  | err e2 s2 => exact hi _ _ _ _ q
  | ok xs s2 =>
    rw [q] at h
    change (if xs.length ≤ sizeLine then M.quiet (lcE b c f xs ρ) else M.bad) s2 = _ at h
    split at h
    · unfold M.quiet at h
      split at h
      · cases h
      · rename_i hn
        exact hn _ _ h
    · cases h
theorem keys_calm (i : Nat) (ρ : Env') (s : FS) (e : Exc) (s' : FS) : keysD i ρ s ≠ .err e s' := by
  intro h
  unfold keysD at h
  cases q : ρ[i]?.join with
  | none => rw [q] at h; cases h
  | some x => rw [q] at h; cases x <;> cases h
theorem keys_bad (i : Nat) (b : D → Option Asg) (c : Env' → M Bool) (f : Env' → M D) (ρ : Env') (s : FS) : (∃ kvs, ρ[i]?.join = some (.dic kvs)) ∨ dLc (keysD i) b c f ρ s = .bad := by
  cases q : ρ[i]?.join with
  | none => exact .inr (by show ((keysD i ρ s).bnd _) = _; unfold keysD; rw [q]; rfl)
  | some x => cases x with
    | dic kvs => exact .inl ⟨kvs, rfl⟩
    | _ => exact .inr (by show ((keysD i ρ s).bnd _) = _; unfold keysD; rw [q]; rfl)
/-- [elt for k in d if ..], d a name of a dict -/
theorem nd_lcKeys {tg elt : Expr} {ifs : List Expr} {scope : Scope} {own : List (Str × Nat)} {pos vp : Pos} {x : Str} {i : Nat} {b : D → Option Asg} {c : Env' → M Bool} {f : Env' → M D} {ns : List Nat} (hc : X.calm = true) (hN : X.N.Nodup) (hi : PE X (.Name x vp) (tVar i)) (ok : BlkOk X.N X.env.scope scope own)
    (hin : ∀ n ∈ ns, n ∈ own.map (·.2)) (hni : ∀ n ∈ own.map (·.2), n ∈ ns)
    (hg : ∀ (s : Shared) (H : Hp) (C : Addr) (cl : List (Str × Addr)) (fp : List Addr), TJ (X.blk s H scope (compEnvC scope cl C X.env) fp) tg ns b) (ht : ∀ (s : Shared) (H : Hp) (C : Addr) (cl : List (Str × Addr)) (fp : List Addr), PTsD (X.blk s H scope (compEnvC scope cl C X.env) fp) fa Wno ifs c)
    (he : ∀ (s : Shared) (H : Hp) (C : Addr) (cl : List (Str × Addr)) (fp : List Addr), ED (X.blk s H scope (compEnvC scope cl C X.env) fp) fa Wno elt f) (hs : ∀ y, foldedSetIterable (.Name x vp) X.env y = pure y := by intro _; rfl) :
    ND X fa Wσ (.ListComp elt [⟨tg, .Name x vp, ifs, 0⟩] scope pos) (dLc (keysD i) b c f) := by
  have p : PE X (.ListComp elt [⟨tg, .Name x vp, ifs, 0⟩] scope pos) (tLc (iKeys (tVar i)) (gStar X ns b) (tStarB X fa Wno c) (tStar X fa Wno f) (own.map (·.2))) := pe_lc hc hN (pi_keys hi) ok (fun s H C cl fp => (hg s H C cl fp).star) (tt := tStarB X fa Wno c) (fun s H C cl fp => (ht s H C cl fp).star) (fun s H C cl fp => (he s H C cl fp).star) hs
  exact ⟨_, pe_or p (pe_lock p), nok_lock (nok_lcP (tg := tg) (iter := .Name x vp) (elt := elt) iok_keys hin hni) (keys_bad i b c f) (lc_quiet (keys_calm i))⟩
/-! ### dict(x) -/
def dictD : List D → Option D
  | [.dic xs] => some (.dic xs)
  | _ => none
theorem ok_dict : CallOk X fa (fun xs H Q => ∃ (a : Addr) (kvs : List (Key × V)), xs = [.ref a] ∧ Rd H a (.dK kvs) ∧ ∀ p, H p = none → Q (.ref p) (upd H p (.dK kvs))) dictD := by
  intro F H s xs as Q h1 h2 r h
  cases r with
  | nil => exact h.elim
  | cons r t =>
    cases t with
    | cons _ _ => cases r <;> exact h.elim
    | nil =>
      cases r with
      | dic hq r => exact ⟨_, _, rfl, same_rd h1 hq, fun p hp => GoodO.new h1 h2 hp (.dic (.inl upd_same) (r.mono (Ext.new (fa := fa) h1 hp).ff)) h⟩
      | _ => exact h.elim
end
end DL

set_option Elab.async false
set_option linter.all false
set_option maxRecDepth 100000
set_option maxHeartbeats 2000000
/-! zip over two lists, when the tuples are kept: behind the first turn its own tuple is alive. -/
namespace ZK
open PySem PySem.Spec PyProof.Rows
/-- a zip whose own tuple T0 was handed out -/
def IsZipO (h : Heap) (z TI TO T0 : Addr) (fl : Bool) : Prop :=
  h.get? z = some { cls := .type "zip", dict := none, data := .fields #[rawInt T0, .bool fl, .bool false, .ref TI, .ref TO], slots := #[] }
section
variable {prog : Program} {w : World} {A : Around} {E : Value → Shared → Prop} {s : Shared}
theorem wpAny_alive {M : Model} {a : Addr} {Q : Option Obj → Shared → Prop} (h : Q (s.heap.get? a) s) : wpAny M A (loadIfAlive a) Q E s := fun _ _ _ => h
theorem notFree {z TI TO T0 : Addr} {fl : Bool} {o0 : Obj} {Q : Bool → Shared → Prop} (hz : IsZipO s.heap z TI TO T0 fl) (h0 : s.heap.get? T0 = some o0)
    (hQ : ∀ h' fl', IsZipO h' z TI TO T0 fl' → Heap.SameBut z s.heap h' → Q false { s with heap := h' }) : wpAny (model prog w) A (Builtin.SmallTypes.ownedTupleIsFree (.ref z)) Q E s := by
  unfold Builtin.SmallTypes.ownedTupleIsFree
  refine wpAny_bind (wpAny_field hz rfl (x := rawInt T0) rfl ?_)
  show wpAny _ _ (loadIfAlive ((T0 : Int).toNat) >>= _) _ _ _
  refine wpAny_bind (wpAny_alive ?_)
  rw [Int.toNat_natCast, h0]
  show wpAny _ _ (field (.ref z) 1 >>= _) _ _ _
  refine wpAny_bind (wpAny_field hz rfl (x := .bool fl) rfl ?_)
  cases fl with
  | true =>
    refine wpAny_bind (wpAny_pure (wpAny_pure ?_))
    exact hQ s.heap true hz (Heap.SameBut.refl _ _)
  | false =>
    refine wpAny_bind ?_
    refine wpAny_setField_rec hz (by simp) fun h' hz' hs' => wpAny_pure ?_
    exact hQ h' true hz' hs'
theorem zipO_item {z TI TO T0 i1 i2 l1 l2 : Addr} {fl : Bool} {o0 : Obj} {k1 k2 : Nat} {xs ys : Array Value} {x y : Value} {Q : Value → Shared → Prop} (D : ZipApart z TI TO i1 i2 l1 l2)
    (hz : IsZipO s.heap z TI TO T0 fl) (h0 : s.heap.get? T0 = some o0) (hTI : IsPair s.heap TI (.ref i1) (.ref i2))
    (h1 : s.heap.IsListIter i1 l1 k1) (h2 : s.heap.IsListIter i2 l2 k2) (hl1 : s.heap.IsList l1 xs) (hl2 : s.heap.IsList l2 ys) (hx : xs[k1]? = some x) (hy : ys[k2]? = some y)
    (hQ : ∀ h' fl', IsZipO h' z TI TO T0 fl' → h'.IsListIter i1 l1 (k1 + 1) → h'.IsListIter i2 l2 (k2 + 1) → IsPair h' s.heap.objs.size x y → h'.objs.size = s.heap.objs.size + 1 →
      (∀ c o, c ≠ z → c ≠ i1 → c ≠ i2 → s.heap.get? c = some o → h'.get? c = some o) → Q (.ref s.heap.objs.size) { s with heap := h' }) :
    wpAny (model prog w) A (Builtin.«zip.__next__» ⟨[.ref z], []⟩) (fun fin s' => ∃ v, fin = .done (.ret v) ∧ Q v s') E s := by
  show wpAny _ _ (field (.ref z) 2 >>= _) _ _ _
  refine wpAny_bind (wpAny_field hz rfl (x := .bool false) rfl ?_)
  show wpAny _ _ (field (.ref z) 3 >>= _) _ _ _
  refine wpAny_bind (wpAny_field hz rfl (x := .ref TI) rfl ?_)
  refine wpAny_bind (wpAny_seqItems hTI rfl ?_)
  show wpAny _ _ (Builtin.SmallTypes.ownedTupleIsFree (.ref z) >>= _) _ _ _
  refine wpAny_bind (notFree hz h0 fun g0 fl' hz0 hs0 => ?_)
  simp only [Bool.false_eq_true, if_false]
  refine wpAny_bind ?_
  simp only [List.forIn_toArray, List.forIn_cons, List.forIn_nil]
  refine wpAny_bind (wpAny_bind (wpAny_holding ?_))
  show wpAny _ _ (Builtin.SmallTypes.nextOf (.ref i1) >>= _) _ _ _
  refine wpAny_bind (wpAny_nextOf_list_item (h1.extBut hs0.extBut D.i1z) (hl1.extBut hs0.extBut D.l1z) hx fun g1 h11 hs1 => wpAny_pure ?_)
  refine wpAny_pure ?_
  refine wpAny_bind (wpAny_bind (wpAny_holding ?_))
  show wpAny _ _ (Builtin.SmallTypes.nextOf (.ref i2) >>= _) _ _ _
  refine wpAny_bind (wpAny_nextOf_list_item ((h2.extBut hs0.extBut D.i2z).extBut hs1.extBut D.i12.symm) ((hl2.extBut hs0.extBut D.l2z).extBut hs1.extBut D.l2i1) hy fun g2 h22 hs2 => wpAny_pure ?_)
  refine wpAny_pure (wpAny_pure ?_)
  refine wpAny_bind (wpAny_newTuple (hsz := by show 2 ≤ sizeLine; decide) ?_)
  have hsz : g2.objs.size = s.heap.objs.size := by rw [hs2.1, hs1.1, hs0.1]
  have hz2 : IsZipO g2 z TI TO T0 fl' := hs2.extBut _ _ D.i2z.symm (hs1.extBut _ _ D.i1z.symm hz0)
  have hk2 : ∀ c o, c ≠ z → c ≠ i1 → c ≠ i2 → s.heap.get? c = some o → g2.get? c = some o := fun c o c1 c3 c4 e => hs2.extBut _ _ c4 (hs1.extBut _ _ c3 (hs0.extBut _ _ c1 e))
  refine wpAny_pure ⟨_, rfl, ?_⟩
  show Q (.ref g2.objs.size) _
  have key := hQ (g2.push { cls := .type "tuple", data := .seq #[x, y] }) fl' (Heap.get?_push_of_some _ hz2) ((h11.extBut hs2.extBut D.i12).at fun o e => Heap.get?_push_of_some _ e) (h22.at fun o e => Heap.get?_push_of_some _ e) ?_ ?_ (fun c o c1 c3 c4 e => Heap.get?_push_of_some _ (hk2 c o c1 c3 c4 e))
  · rw [hsz]
    exact key
  · rw [← hsz]
    exact Heap.get?_push_size _ rfl
  · rw [Heap.size_push, hsz]
theorem zipO_end {z TI TO T0 i1 i2 l1 l2 : Addr} {fl : Bool} {o0 : Obj} {k1 k2 : Nat} {xs ys : Array Value} {Q : Fin → Shared → Prop} (hh : A.handled = none) (D : ZipApart z TI TO i1 i2 l1 l2)
    (hz : IsZipO s.heap z TI TO T0 fl) (h0 : s.heap.get? T0 = some o0) (hTI : IsPair s.heap TI (.ref i1) (.ref i2))
    (h1 : s.heap.IsListIter i1 l1 k1) (h2 : s.heap.IsListIter i2 l2 k2) (hl1 : s.heap.IsList l1 xs) (hl2 : s.heap.IsList l2 ys) (hend : xs[k1]? = none ∨ ys[k2]? = none)
    (hE : ∀ h' e, (∀ c o, c ≠ z → c ≠ i1 → c ≠ i2 → s.heap.get? c = some o → h'.get? c = some o) → (∃ o, h'.get? e = some o ∧ o.cls = .type "StopIteration") → E (.ref e) { s with heap := h' }) :
    wpAny (model prog w) A (Builtin.«zip.__next__» ⟨[.ref z], []⟩) Q E s := by
  show wpAny _ _ (field (.ref z) 2 >>= _) _ _ _
  refine wpAny_bind (wpAny_field hz rfl (x := .bool false) rfl ?_)
  show wpAny _ _ (field (.ref z) 3 >>= _) _ _ _
  refine wpAny_bind (wpAny_field hz rfl (x := .ref TI) rfl ?_)
  refine wpAny_bind (wpAny_seqItems hTI rfl ?_)
  show wpAny _ _ (Builtin.SmallTypes.ownedTupleIsFree (.ref z) >>= _) _ _ _
  refine wpAny_bind (notFree hz h0 fun g0 fl' hz0 hs0 => ?_)
  simp only [Bool.false_eq_true, if_false]
  refine wpAny_bind ?_
  simp only [List.forIn_toArray, List.forIn_cons, List.forIn_nil]
  refine wpAny_bind (wpAny_bind (wpAny_holding ?_))
  show wpAny _ _ (Builtin.SmallTypes.nextOf (.ref i1) >>= _) _ _ _
  cases qx : xs[k1]? with
  | none =>
    refine wpAny_bind (wpAny_nextOf_list_end hh (h1.extBut hs0.extBut D.i1z) (hl1.extBut hs0.extBut D.l1z) qx fun h' e he ho => ?_)
    exact hE h' e (fun c o c1 c3 c4 z => he _ _ c3 (hs0.extBut _ _ c1 z)) ho
  | some x =>
    have hy : ys[k2]? = none := by
      rcases hend with h | h
      · rw [qx] at h; cases h
      · exact h
    refine wpAny_bind (wpAny_nextOf_list_item (h1.extBut hs0.extBut D.i1z) (hl1.extBut hs0.extBut D.l1z) qx fun g1 h11 hs1 => wpAny_pure ?_)
    refine wpAny_pure ?_
    refine wpAny_bind (wpAny_bind (wpAny_holding ?_))
    show wpAny _ _ (Builtin.SmallTypes.nextOf (.ref i2) >>= _) _ _ _
    refine wpAny_bind (wpAny_nextOf_list_end hh ((h2.extBut hs0.extBut D.i2z).extBut hs1.extBut D.i12.symm) ((hl2.extBut hs0.extBut D.l2z).extBut hs1.extBut D.l2i1) hy fun h' e he ho => ?_)
    exact hE h' e (fun c o c1 c3 c4 z => he _ _ c4 (hs1.extBut _ _ c3 (hs0.extBut _ _ c1 z))) ho
theorem nextO_item {z TI TO T0 i1 i2 l1 l2 : Addr} {fl : Bool} {o0 : Obj} {k1 k2 : Nat} {xs ys : Array Value} {x y : Value} {Q : Option Value → Shared → Prop} (D : ZipApart z TI TO i1 i2 l1 l2)
    (hz : IsZipO s.heap z TI TO T0 fl) (h0 : s.heap.get? T0 = some o0) (hTI : IsPair s.heap TI (.ref i1) (.ref i2))
    (h1 : s.heap.IsListIter i1 l1 k1) (h2 : s.heap.IsListIter i2 l2 k2) (hl1 : s.heap.IsList l1 xs) (hl2 : s.heap.IsList l2 ys) (hx : xs[k1]? = some x) (hy : ys[k2]? = some y)
    (hQ : ∀ h' fl', IsZipO h' z TI TO T0 fl' → h'.IsListIter i1 l1 (k1 + 1) → h'.IsListIter i2 l2 (k2 + 1) → IsPair h' s.heap.objs.size x y → h'.objs.size = s.heap.objs.size + 1 →
      (∀ c o, c ≠ z → c ≠ i1 → c ≠ i2 → s.heap.get? c = some o → h'.get? c = some o) → Q (some (.ref s.heap.objs.size)) { s with heap := h' }) :
    wpAny (model prog w) A (pyNext (.ref z)) Q E s := by
  have hT : s.TypeIs (.ref z) "zip" := ⟨_, hz, rfl⟩
  unfold pyNext
  exact wpAny_bind (wpAny_attempt (wpAny_callSpecial?_slot (name := Str.ofString "__next__") hT F.slot_zip_next
    (wpAny_call_entry F.slot_zip_next hT F.entry_zip_next
      (zipO_item D hz h0 hTI h1 h2 hl1 hl2 hx hy fun h' fl' a1 a3 a4 a5 a6 a7 => wpAny_pure (hQ h' fl' a1 a3 a4 a5 a6 a7)) (F.args_zip_next_1 _))))
theorem nextO_end {z TI TO T0 i1 i2 l1 l2 : Addr} {fl : Bool} {o0 : Obj} {k1 k2 : Nat} {xs ys : Array Value} {Q : Option Value → Shared → Prop} (hh : A.handled = none) (D : ZipApart z TI TO i1 i2 l1 l2)
    (hz : IsZipO s.heap z TI TO T0 fl) (h0 : s.heap.get? T0 = some o0) (hTI : IsPair s.heap TI (.ref i1) (.ref i2))
    (h1 : s.heap.IsListIter i1 l1 k1) (h2 : s.heap.IsListIter i2 l2 k2) (hl1 : s.heap.IsList l1 xs) (hl2 : s.heap.IsList l2 ys) (hend : xs[k1]? = none ∨ ys[k2]? = none)
    (hQ : ∀ h', (∀ c o, c ≠ z → c ≠ i1 → c ≠ i2 → s.heap.get? c = some o → h'.get? c = some o) → Q none { s with heap := h' }) : wpAny (model prog w) A (pyNext (.ref z)) Q E s := by
  have hT : s.TypeIs (.ref z) "zip" := ⟨_, hz, rfl⟩
  unfold pyNext
  refine wpAny_bind (wpAny_attempt (wpAny_callSpecial?_slot (name := Str.ofString "__next__") hT F.slot_zip_next
    (wpAny_call_entry F.slot_zip_next hT F.entry_zip_next (zipO_end hh D hz h0 hTI h1 h2 hl1 hl2 hend fun h' e hk he => ?_) (F.args_zip_next_1 _))))
  obtain ⟨o, ho, hc⟩ := he
  refine wpAny_bind (wpAny_isInstance (T := "StopIteration") (b := true) ⟨o, ho, hc⟩ isSubtype_stop ?_)
  exact wpAny_pure (hQ _ hk)
end
end ZK

set_option Elab.async false
set_option linter.all false
set_option maxRecDepth 100000
set_option maxHeartbeats 2000000
/-! list over a zip of two lists. -/
namespace ZK
open PySem PySem.Spec PyProof.Rows
/-- the items so far: new pairs, made behind S -/
def PairsAt (S : Addr) (h : Heap) (xs ys : Array Value) (acc : Array Value) (i : Nat) : Prop :=
  acc.size = i ∧ (∀ (j : Nat) v, acc[j]? = some v → ∃ T x y, v = .ref T ∧ S < T ∧ IsPair h T x y ∧ xs[j]? = some x ∧ ys[j]? = some y) ∧ ∀ (j k : Nat) v, acc[j]? = some v → acc[k]? = some v → j = k
structure ZS (h : Heap) (z TI TO i1 i2 l1 l2 : Addr) (xs ys : Array Value) (i : Nat) : Prop where
  ti : IsPair h TI (.ref i1) (.ref i2)
  h1 : h.IsListIter i1 l1 i
  h2 : h.IsListIter i2 l2 i
  hl1 : h.IsList l1 xs
  hl2 : h.IsList l2 ys
  zz : (i = 0 ∧ IsZip h z TI TO .none ∧ ∃ a b, IsPair h TO a b) ∨ ∃ T0 fl x y, IsZipO h z TI TO T0 fl ∧ IsPair h T0 x y
section
variable {prog : Program} {w : World} {A : Around} {R : Result → Shared → Prop} {z TI TO i1 i2 l1 l2 S : Addr} {xs ys : Array Value}
theorem pairs_keep {h h' : Heap} {acc : Array Value} {i : Nat} (P : PairsAt S h xs ys acc i) (k : ∀ T x y, IsPair h T x y → IsPair h' T x y) : PairsAt S h' xs ys acc i :=
  ⟨P.1, fun j v e => by
    obtain ⟨T, x, y, e1, e0, e2, e3, e4⟩ := P.2.1 j v e
    exact ⟨T, x, y, e1, e0, k T x y e2, e3, e4⟩, P.2.2⟩
theorem pairs_push {h : Heap} {acc : Array Value} {i : Nat} {T : Addr} {x y : Value} (P : PairsAt S h xs ys acc i) (hT : S < T) (lt : ∀ (j : Nat) T', acc[j]? = some (.ref T') → T' < T) (e : IsPair h T x y) (hx : xs[i]? = some x) (hy : ys[i]? = some y) : PairsAt S h xs ys (acc.push (.ref T)) (i + 1) := by
  have sz := P.1
  have cut : ∀ (j : Nat) v, (acc.push (.ref T))[j]? = some v → (j = i ∧ v = .ref T) ∨ acc[j]? = some v := fun j v hj => by
    rw [Array.getElem?_push] at hj
    split at hj
    · rename_i e2
      rw [P.1] at e2
      cases hj
      exact .inl ⟨e2, rfl⟩
    · exact .inr hj
  refine ⟨by rw [Array.size_push, P.1], fun j v hj => ?_, fun j k v hj hk => ?_⟩
  · rcases cut j v hj with ⟨rfl, rfl⟩ | hj
    · exact ⟨T, x, y, rfl, hT, e, hx, hy⟩
    · exact P.2.1 j v hj
  · rcases cut j v hj with ⟨rfl, rfl⟩ | hj
    · rcases cut k _ hk with ⟨rfl, _⟩ | hk
      · rfl
      · exact absurd (lt k T hk) (Nat.lt_irrefl _)
    · rcases cut k v hk with ⟨rfl, rfl⟩ | hk
      · exact absurd (lt j T hj) (Nat.lt_irrefl _)
      · exact P.2.2 j k v hj hk
theorem pair_cls {h : Heap} {T : Addr} {x y : Value} {o : Obj} (e : IsPair h T x y) (ho : h.get? T = some o) : o.cls = .type "tuple" := by
  have e : h.get? T = some { cls := .type "tuple", data := .seq #[x, y] } := e
  rw [ho] at e
  cases e
  rfl
theorem pair_it {h : Heap} {T l : Addr} {x y : Value} {i : Nat} (e : IsPair h T x y) (ho : h.IsListIter T l i) : False := by
  obtain ⟨o, ho, hc, hd⟩ := ho
  have := hc.symm.trans (pair_cls e ho)
  injection this with h
  exact absurd h (by decide)
theorem pair_zip {h : Heap} {T TI TO T0 : Addr} {x y : Value} {fl : Bool} (e : IsPair h T x y) (ho : IsZipO h T TI TO T0 fl) : False := by
  have := pair_cls e ho
  injection this with h
  exact absurd h (by decide)
theorem pair_list {h : Heap} {T : Addr} {x y : Value} {acc : Array Value} {c : Nat} (e : IsPair h T x y) (ho : h.get? T = some { cls := .type "list", dict := none, data := .seq acc c, slots := #[] }) : False := by
  have := pair_cls e ho
  injection this with h
  exact absurd h (by decide)
theorem loop_zip (hh : A.handled = none) (D : ZipApart z TI TO i1 i2 l1 l2) (hS : S ≠ z ∧ S ≠ TI ∧ S ≠ TO ∧ S ≠ i1 ∧ S ≠ i2 ∧ S ≠ l1 ∧ S ≠ l2) (hn : min xs.size ys.size ≤ sizeLine) (res : Value) :
    ∀ (k i : Nat) (s : Shared) (acc : Array Value) (c : Nat), min xs.size ys.size - i = k → i ≤ min xs.size ys.size → ZS s.heap z TI TO i1 i2 l1 l2 xs ys i → s.heap.get? S = some { cls := .type "list", dict := none, data := .seq acc c, slots := #[] } → PairsAt S s.heap xs ys acc i →
    (∀ h' acc' c', (∀ b o, b ≠ S → b ≠ z → b ≠ TO → b ≠ i1 → b ≠ i2 → s.heap.get? b = some o → h'.get? b = some o) → h'.get? S = some { cls := .type "list", dict := none, data := .seq acc' c', slots := #[] } → PairsAt S h' xs ys acc' (min xs.size ys.size) → R (.ok (.ret res)) { s with heap := h' }) →
    codeAny (model prog w) A (.builtin "list.extend.loop" ⟨[.ref S, .ref z, res], []⟩) R s := by
  intro k
  induction k with
  | zero =>
    intro i s acc c hk hi hst hSl hacc hR
    have hin : i = min xs.size ys.size := by omega
    subst hin
    refine codeAny_builtin F.entry_extend_loop ?_
    rw [Around.under_plainId F.plain_extend_loop _]
    show wpAny _ A.in1 (pyNext (.ref z) >>= _) _ _ s
    have hend : xs[min xs.size ys.size]? = none ∨ ys[min xs.size ys.size]? = none := by
      rcases Nat.le_total xs.size ys.size with h | h
      · exact .inl (by rw [Nat.min_eq_left h]; simp)
      · exact .inr (by rw [Nat.min_eq_right h]; simp)
    have fin : ∀ h', (∀ b o, b ≠ z → b ≠ TO → b ≠ i1 → b ≠ i2 → s.heap.get? b = some o → h'.get? b = some o) → (∀ T x y, IsPair s.heap T x y → acc.size ≠ 0 → IsPair h' T x y) → R (.ok (.ret res)) { s with heap := h' } := fun h' kp kT => by
      refine hR h' acc c (fun b o n1 n2 n3 n4 n5 e => kp b o n2 n3 n4 n5 e) (kp S _ hS.1 hS.2.2.1 hS.2.2.2.1 hS.2.2.2.2.1 hSl) ⟨hacc.1, fun j v e => ?_, hacc.2.2⟩
      obtain ⟨T, x, y, e1, e0, e2, e3, e4⟩ := hacc.2.1 j v e
      refine ⟨T, x, y, e1, e0, kT T x y e2 (fun q => ?_), e3, e4⟩
      have := (Array.getElem?_eq_some_iff.mp e).1
      omega
    rcases hst.zz with ⟨h0, hz, a, b, hTO⟩ | ⟨T0, fl, x, y, hz, hT0⟩
    · refine wpAny_bind (wpAny_pyNext_zip_end hh D hz hst.ti hTO hst.h1 hst.h2 hst.hl1 hst.hl2 hend fun h' kp => wpAny_pure ?_)
      exact fin h' (fun b o n1 n2 n3 n4 e => kp b o n1 n2 n3 n4 e) fun T x y _ q => absurd (hacc.1.trans h0) q
    · refine wpAny_bind (nextO_end hh D hz hT0 hst.ti hst.h1 hst.h2 hst.hl1 hst.hl2 hend fun h' kp => wpAny_pure ?_)
      refine fin h' (fun b o n1 n2 n3 n4 e => kp b o n1 n3 n4 e) fun T x y e _ => kp T _ (fun q => ?_) (fun q => ?_) (fun q => ?_) e
      · subst q; exact pair_zip e hz
      · subst q; exact pair_it e hst.h1
      · subst q; exact pair_it e hst.h2
  | succ k ih =>
    intro i s acc c hk hi hst hSl hacc hR
    have hlt : i < min xs.size ys.size := by omega
    have hx : xs[i]? = some xs[i] := Array.getElem?_eq_getElem (by omega)
    have hy : ys[i]? = some ys[i] := Array.getElem?_eq_getElem (by omega)
    refine codeAny_builtin F.entry_extend_loop ?_
    rw [Around.under_plainId F.plain_extend_loop _]
    show wpAny _ A.in1 (pyNext (.ref z) >>= _) _ _ s
    have ltT : ∀ (j : Nat) T', acc[j]? = some (.ref T') → T' < s.heap.objs.size := fun j T' e => by
      obtain ⟨T, x, y, e1, e0, e2, e3, e4⟩ := hacc.2.1 j _ e
      cases e1
      exact Heap.lt_size e2
    have ltS : S < s.heap.objs.size := Heap.lt_size hSl
    rcases hst.zz with ⟨h0, hz, a, b, hTO⟩ | ⟨T0, fl, x0, y0, hz, hT0⟩
    · refine wpAny_bind (wpAny_pyNext_zip_item D hz hst.ti hTO hst.h1 hst.h2 hst.hl1 hst.hl2 hx hy fun h' a1 a2 a3 a4 a5 a6 kp => ?_)
      have hSl' := kp S _ hS.1 hS.2.2.1 hS.2.2.2.1 hS.2.2.2.2.1 hSl
      show wpAny _ A.in1 (updateSeq S (·.push (.ref s.heap.objs.size)) >>= _) _ _ _
      have oth : ∀ b o, b ≠ S → h'.get? b = some o → (h'.update S (Obj.mapSeq (·.push (.ref s.heap.objs.size)))).get? b = some o := fun b o hb e => (Heap.get?_update_other _ _ (Ne.symm hb)).trans e
      have pk : ∀ T x y, IsPair h' T x y → IsPair (h'.update S (Obj.mapSeq (·.push (.ref s.heap.objs.size)))) T x y := fun T x y e => oth T _ (fun q => by subst q; exact pair_list e hSl') e
      refine wpAny_bind ?_
      refine wpAny_updateSeq hSl' rfl (wpAny_pure ⟨plainId_quiet F.plain_extend_loop _, ih (i + 1) _ (acc.push (.ref s.heap.objs.size)) _ (by omega) hlt ⟨pk _ _ _ (kp TI _ D.TIz D.TITO D.TIi1 D.TIi2 hst.ti), a3.at fun o e => oth _ o hS.2.2.2.1.symm e, a4.at fun o e => oth _ o hS.2.2.2.2.1.symm e, ?l1, ?l2, .inr ⟨s.heap.objs.size, false, _, _, oth _ _ hS.1.symm a1, pk _ _ _ a5⟩⟩ (Heap.get?_update_self _ hSl' rfl) (pairs_keep (pairs_push ⟨hacc.1, fun j v e => absurd (Array.getElem?_eq_some_iff.mp e).1 (by rw [hacc.1, h0]; omega), hacc.2.2⟩ ltS ltT a5 hx hy) pk) fun h'' acc' c' kp2 hS'' hacc' => ?_⟩)
        (by rw [hacc.1]; omega) (by show (acc.push _).size ≤ sizeLine + 1; rw [Array.size_push, hacc.1]; omega)
      case l1 => obtain ⟨o, ho, hr⟩ := (show h'.IsList l1 xs from (by obtain ⟨o, ho, hr⟩ := hst.hl1; exact ⟨o, kp _ _ D.l1z D.l1TO D.l1i1 D.l1i2 ho, hr⟩)); exact ⟨o, oth _ _ hS.2.2.2.2.2.1.symm ho, hr⟩
      case l2 => obtain ⟨o, ho, hr⟩ := (show h'.IsList l2 ys from (by obtain ⟨o, ho, hr⟩ := hst.hl2; exact ⟨o, kp _ _ D.l2z D.l2TO D.l2i1 D.l2i2 ho, hr⟩)); exact ⟨o, oth _ _ hS.2.2.2.2.2.2.symm ho, hr⟩
      exact hR h'' acc' c' (fun b o n1 n2 n3 n4 n5 e => kp2 b o n1 n2 n3 n4 n5 (oth b o n1 (kp b o n2 n3 n4 n5 e))) hS'' hacc'
    · refine wpAny_bind (nextO_item D hz hT0 hst.ti hst.h1 hst.h2 hst.hl1 hst.hl2 hx hy fun h' fl1 a1 a3 a4 a5 a6 kp => ?_)
      have kq : ∀ T x y, IsPair s.heap T x y → IsPair h' T x y := fun T x y e => kp T _ (fun q => by subst q; exact pair_zip e hz) (fun q => by subst q; exact pair_it e hst.h1) (fun q => by subst q; exact pair_it e hst.h2) e
      have hSl' := kp S _ hS.1 hS.2.2.2.1 hS.2.2.2.2.1 hSl
      show wpAny _ A.in1 (updateSeq S (·.push (.ref s.heap.objs.size)) >>= _) _ _ _
      have oth : ∀ b o, b ≠ S → h'.get? b = some o → (h'.update S (Obj.mapSeq (·.push (.ref s.heap.objs.size)))).get? b = some o := fun b o hb e => (Heap.get?_update_other _ _ (Ne.symm hb)).trans e
      have pk : ∀ T x y, IsPair h' T x y → IsPair (h'.update S (Obj.mapSeq (·.push (.ref s.heap.objs.size)))) T x y := fun T x y e => oth T _ (fun q => by subst q; exact pair_list e hSl') e
      refine wpAny_bind ?_
      refine wpAny_updateSeq hSl' rfl (wpAny_pure ⟨plainId_quiet F.plain_extend_loop _, ih (i + 1) _ (acc.push (.ref s.heap.objs.size)) _ (by omega) hlt ⟨pk _ _ _ (kp TI _ D.TIz D.TIi1 D.TIi2 hst.ti), a3.at fun o e => oth _ o hS.2.2.2.1.symm e, a4.at fun o e => oth _ o hS.2.2.2.2.1.symm e, ?l1, ?l2, .inr ⟨T0, fl1, _, _, oth _ _ hS.1.symm a1, pk _ _ _ (kq _ _ _ hT0)⟩⟩ (Heap.get?_update_self _ hSl' rfl) (pairs_keep (pairs_push (pairs_keep hacc kq) ltS ltT a5 hx hy) pk) fun h'' acc' c' kp2 hS'' hacc' => ?_⟩)
        (by rw [hacc.1]; omega) (by show (acc.push _).size ≤ sizeLine + 1; rw [Array.size_push, hacc.1]; omega)
      case l1 => obtain ⟨o, ho, hr⟩ := (show h'.IsList l1 xs from (by obtain ⟨o, ho, hr⟩ := hst.hl1; exact ⟨o, kp _ _ D.l1z D.l1i1 D.l1i2 ho, hr⟩)); exact ⟨o, oth _ _ hS.2.2.2.2.2.1.symm ho, hr⟩
      case l2 => obtain ⟨o, ho, hr⟩ := (show h'.IsList l2 ys from (by obtain ⟨o, ho, hr⟩ := hst.hl2; exact ⟨o, kp _ _ D.l2z D.l2i1 D.l2i2 ho, hr⟩)); exact ⟨o, oth _ _ hS.2.2.2.2.2.2.symm ho, hr⟩
      exact hR h'' acc' c' (fun b o n1 n2 n3 n4 n5 e => kp2 b o n1 n2 n3 n4 n5 (oth b o n1 (kp b o n2 n4 n5 e))) hS'' hacc'
end
end ZK

set_option Elab.async false
set_option linter.all false
set_option maxRecDepth 100000
set_option maxHeartbeats 2000000
/-! list(zip of two lists): the call. -/
namespace ZK
open PySem PySem.Spec PyProof.Rows
theorem zip_no_len : typeLookup (.type "zip") "__len__" = pure none := by rw [typeLookup_type, builtinLookup_eq_fast]; kernel_rfl
theorem zip_no_hint : typeLookup (.type "zip") "__length_hint__" = pure none := by rw [typeLookup_type, builtinLookup_eq_fast]; kernel_rfl
section
variable {prog : Program} {w : World} {A : Around} {E : Value → Shared → Prop} {s : Shared} {z TI TO i1 i2 l1 l2 S : Addr} {xs ys : Array Value}
theorem extend_zip {R : Result → Shared → Prop} (hh : A.handled = none) (D : ZipApart z TI TO i1 i2 l1 l2) (hD : S ≠ z ∧ S ≠ TI ∧ S ≠ TO ∧ S ≠ i1 ∧ S ≠ i2 ∧ S ≠ l1 ∧ S ≠ l2) (hn : min xs.size ys.size ≤ sizeLine)
    (hS : ∃ c, s.heap.get? S = some { cls := .type "list", dict := none, data := .seq #[] c, slots := #[] }) {a b : Value} (hz : IsZip s.heap z TI TO .none) (ti : IsPair s.heap TI (.ref i1) (.ref i2)) (to : IsPair s.heap TO a b)
    (h1 : s.heap.IsListIter i1 l1 0) (h2 : s.heap.IsListIter i2 l2 0) (hl1 : s.heap.IsList l1 xs) (hl2 : s.heap.IsList l2 ys) (res : Value)
    (hR : ∀ h' acc' c', (∀ b o, b ≠ S → b ≠ z → b ≠ TO → b ≠ i1 → b ≠ i2 → s.heap.get? b = some o → h'.get? b = some o) → h'.get? S = some { cls := .type "list", dict := none, data := .seq acc' c', slots := #[] } → PairsAt S h' xs ys acc' (min xs.size ys.size) → R (.ok (.ret res)) { s with heap := h' }) :
    wpAny (model prog w) A.in1 (Builtin.List.listExtendWith (.ref S) (.ref z) res)
      (fun fin s' => match fin with | .done f => R (.ok f) s' | .again c' => c'.quiet = true ∧ codeAny (model prog w) A c' R s') (fun e s' => R (.error e) s') s := by
  obtain ⟨c, hS⟩ := hS
  have hT : s.TypeIs (.ref z) "zip" := ⟨_, hz, rfl⟩
  unfold Builtin.List.listExtendWith
  refine wpAny_bind (wpAny_typeOf hT ?_)
  have e1 : Builtin.List.listSameRef (.ref S) (.ref z) = false := by simp [Builtin.List.listSameRef, hD.1]
  have e2 : (Value.type "zip" == Value.type "list") = false := by decide
  have e3 : (Value.type "zip" == Value.type "tuple") = false := by decide
  simp only [e1, e2, e3, Bool.or_false, Bool.false_eq_true, if_false]
  refine wpAny_bind (wpAny_pyIter_zip hz ?_)
  refine wpAny_bind (wpAny_holding ?_)
  unfold Builtin.List.listLengthHint
  refine wpAny_bind (wpAny_specialOf hT zip_no_len ?_)
  show wpAny _ A.in1 (specialOf (Value.ref z) (Str.ofString "__length_hint__") >>= _) _ _ _
  refine wpAny_bind (wpAny_specialOf hT zip_no_hint ?_)
  refine wpAny_pure ?_
  show wpAny _ A.in1 (rule "list.extend.makes-room" >>= fun _ => Builtin.List.listTouch (.ref S) >>= fun _ =>
    again (.builtin "list.extend.loop" ⟨[.ref S, .ref z, res], []⟩)) _ _ _
  refine wpAny_bind (wpAny_rule ?_)
  refine wpAny_bind ?_
  show wpAny _ A.in1 (updateSeq S (·.push .none) >>= fun _ => updateSeq S (·.pop)) _ _ _
  refine wpAny_bind (wpAny_updateSeq hS rfl ?_)
  have hS2 := Heap.get?_update_self (Obj.mapSeq (·.push Value.none)) hS rfl
  refine wpAny_updateSeq hS2 rfl ?_
  have hS3 := Heap.get?_update_self (Obj.mapSeq (·.pop)) hS2 rfl
  have oth : ∀ b o, b ≠ S → s.heap.get? b = some o → ((s.heap.update S (Obj.mapSeq (·.push Value.none))).update S (Obj.mapSeq (·.pop))).get? b = some o :=
    fun b o hb e => (Heap.get?_update_other _ _ (Ne.symm hb)).trans ((Heap.get?_update_other _ _ (Ne.symm hb)).trans e)
  refine wpAny_pure ⟨plainId_quiet F.plain_extend_loop _, loop_zip hh D hD hn res _ 0 _ #[] _ rfl (Nat.zero_le _) ⟨oth _ _ hD.2.1.symm ti, h1.at fun o e => oth _ o hD.2.2.2.1.symm e, h2.at fun o e => oth _ o hD.2.2.2.2.1.symm e, ?l1, ?l2, .inl ⟨rfl, oth _ _ hD.1.symm hz, a, b, oth _ _ hD.2.2.1.symm to⟩⟩ hS3 ⟨rfl, fun j v e => by simp at e, fun j k v e => by simp at e⟩ fun h' acc' c' kp hS' hacc => ?_⟩
  case l1 => obtain ⟨o, ho, hr⟩ := hl1; exact ⟨o, oth _ _ hD.2.2.2.2.2.1.symm ho, hr⟩
  case l2 => obtain ⟨o, ho, hr⟩ := hl2; exact ⟨o, oth _ _ hD.2.2.2.2.2.2.symm ho, hr⟩
  exact hR h' acc' c' (fun b o n1 n2 n3 n4 n5 e => kp b o n1 n2 n3 n4 n5 (oth b o n1 e)) hS' hacc
theorem init_zip {R : Result → Shared → Prop} (hh : A.handled = none) (D : ZipApart z TI TO i1 i2 l1 l2) (hD : S ≠ z ∧ S ≠ TI ∧ S ≠ TO ∧ S ≠ i1 ∧ S ≠ i2 ∧ S ≠ l1 ∧ S ≠ l2) (hn : min xs.size ys.size ≤ sizeLine)
    (hS : s.heap.get? S = some { cls := .type "list", data := .seq #[] }) {a b : Value} (hz : IsZip s.heap z TI TO .none) (ti : IsPair s.heap TI (.ref i1) (.ref i2)) (to : IsPair s.heap TO a b)
    (h1 : s.heap.IsListIter i1 l1 0) (h2 : s.heap.IsListIter i2 l2 0) (hl1 : s.heap.IsList l1 xs) (hl2 : s.heap.IsList l2 ys)
    (hR : ∀ h' acc' c', (∀ b o, b ≠ S → b ≠ z → b ≠ TO → b ≠ i1 → b ≠ i2 → s.heap.get? b = some o → h'.get? b = some o) → h'.get? S = some { cls := .type "list", dict := none, data := .seq acc' c', slots := #[] } → PairsAt S h' xs ys acc' (min xs.size ys.size) → R (.ok (.ret .none)) { s with heap := h' }) :
    wpAny (model prog w) A.in1 (Builtin.«list.__init__» ⟨[.ref S, .ref z], []⟩)
      (fun fin s' => match fin with | .done f => R (.ok f) s' | .again c' => c'.quiet = true ∧ codeAny (model prog w) A c' R s') (fun e s' => R (.error e) s') s := by
  show wpAny _ _ (do let old ← Builtin.List.listItems (.ref S); Builtin.List.listUpdate (.ref S) (fun _ => #[]); letGo old.toList.reverse; Builtin.List.listExtendWith (.ref S) (.ref z) .none) _ _ s
  refine wpAny_bind ?_
  unfold Builtin.List.listItems
  refine wpAny_bind (wpAny_seqItems hS rfl (wpAny_pure ?_))
  show wpAny _ _ (updateSeq S (fun _ => #[]) >>= fun _ => letGo (#[] : Array Value).toList.reverse >>= fun _ => Builtin.List.listExtendWith (.ref S) (.ref z) .none) _ _ s
  refine wpAny_bind (wpAny_updateSeq hS rfl ?_)
  have hS2 := Heap.get?_update_self (Obj.mapSeq (fun _ => (#[] : Array Value))) hS rfl
  have oth : ∀ b o, b ≠ S → s.heap.get? b = some o → (s.heap.update S (Obj.mapSeq (fun _ => (#[] : Array Value)))).get? b = some o :=
    fun b o hb e => (Heap.get?_update_other _ _ (Ne.symm hb)).trans e
  refine wpAny_bind (wpAny_letGo ?_)
  refine extend_zip (R := R) hh D hD hn ⟨_, hS2⟩ (oth _ _ hD.1.symm hz) (oth _ _ hD.2.1.symm ti) (oth _ _ hD.2.2.1.symm to) (h1.at fun o e => oth _ o hD.2.2.2.1.symm e) (h2.at fun o e => oth _ o hD.2.2.2.2.1.symm e) ?l1 ?l2 .none fun h' acc' c' kp hS' hacc => ?_
  case l1 => obtain ⟨o, ho, hr⟩ := hl1; exact ⟨o, oth _ _ hD.2.2.2.2.2.1.symm ho, hr⟩
  case l2 => obtain ⟨o, ho, hr⟩ := hl2; exact ⟨o, oth _ _ hD.2.2.2.2.2.2.symm ho, hr⟩
  exact hR h' acc' c' (fun b o n1 n2 n3 n4 n5 e => kp b o n1 n2 n3 n4 n5 (oth b o n1 e)) hS' hacc
theorem call_list_zip {Q : Value → Shared → Prop} (hh : A.handled = none) (D : ZipApart z TI TO i1 i2 l1 l2) (hn : min xs.size ys.size ≤ sizeLine)
    {a b : Value} (hz : IsZip s.heap z TI TO .none) (ti : IsPair s.heap TI (.ref i1) (.ref i2)) (to : IsPair s.heap TO a b)
    (h1 : s.heap.IsListIter i1 l1 0) (h2 : s.heap.IsListIter i2 l2 0) (hl1 : s.heap.IsList l1 xs) (hl2 : s.heap.IsList l2 ys)
    (hQ : ∀ h' acc' c', (∀ b o, b ≠ z → b ≠ TO → b ≠ i1 → b ≠ i2 → s.heap.get? b = some o → h'.get? b = some o) → h'.get? s.heap.objs.size = some { cls := .type "list", dict := none, data := .seq acc' c', slots := #[] } → PairsAt s.heap.objs.size h' xs ys acc' (min xs.size ys.size) → Q (.ref s.heap.objs.size) { s with heap := h' }) :
    wpAny (model prog w) A (call (.type "list") [.ref z]) Q E s := by
  refine callType_codes (Q₁ := fun obj s₁ => obj = .ref s.heap.objs.size ∧ s₁ = { s with heap := s.heap.push { cls := .type "list", data := .seq #[] } }) F.called_list (F.typeCall_list_1 _) F.entry_list_init
    (code_list_new _ ⟨rfl, rfl⟩) fun obj s₁ hs => ?_
  obtain ⟨rfl, rfl⟩ := hs
  have hS : (s.heap.push { cls := .type "list", data := .seq #[] }).get? s.heap.objs.size = some { cls := .type "list", data := .seq #[] } := Heap.get?_push_size _ rfl
  have up : ∀ b o, s.heap.get? b = some o → (s.heap.push { cls := .type "list", data := .seq #[] }).get? b = some o := fun b o e => Heap.get?_push_of_some _ e
  have ne : ∀ {b o}, s.heap.get? b = some o → s.heap.objs.size ≠ b := fun e => Nat.ne_of_gt (Heap.lt_size e)
  have n1 : s.heap.objs.size ≠ i1 := by obtain ⟨_, e, _⟩ := h1; exact ne e
  have n2 : s.heap.objs.size ≠ i2 := by obtain ⟨_, e, _⟩ := h2; exact ne e
  have n3 : s.heap.objs.size ≠ l1 := by obtain ⟨_, e, _⟩ := hl1; exact ne e
  have n4 : s.heap.objs.size ≠ l2 := by obtain ⟨_, e, _⟩ := hl2; exact ne e
  refine ⟨⟨_, hS, rfl⟩, F.args_list_init_2 _ _, init_zip (A := A.in1) hh D ⟨ne hz, ne ti, ne to, n1, n2, n3, n4⟩ hn hS (up _ _ hz) (up _ _ ti) (up _ _ to) (h1.at fun o e => up _ o e) (h2.at fun o e => up _ o e) ?l1 ?l2 fun h' acc' c' kp hS' hacc => ?_⟩
  case l1 => obtain ⟨o, ho, hr⟩ := hl1; exact ⟨o, up _ _ ho, hr⟩
  case l2 => obtain ⟨o, ho, hr⟩ := hl2; exact ⟨o, up _ _ ho, hr⟩
  exact ⟨rfl, hQ h' acc' c' (fun b o n2 n3 n4 n5 e => kp b o (Nat.ne_of_lt (Heap.lt_size e)) n2 n3 n4 n5 (up b o e)) hS' hacc⟩
end
end ZK

set_option Elab.async false
set_option linter.all false
set_option maxRecDepth 100000
set_option maxHeartbeats 2000000
/-! list(zip(a, b)) as an expression. -/
namespace ZK
open PySem PySem.Spec PyProof.Rows L2
theorem inv_lay {X : Cx} {pins : List (Addr × Obj)} {σ : L2.St} {H H' : Hp} {s : Shared} {h' : Heap} {t' : Nat} (I : Inv X pins σ H s) (k : ∀ b u, s.heap.get? b = some u → h'.get? b = some u) (hh : ∀ b o, H b = some o → H' b = some o)
    (new : ∀ b o, H b = none → H' b = some o → s.heap.objs.size ≤ b ∧ ObjOk X.prog X.w H' h' b o) : Inv X pins σ H' { s with heap := h', toks := t' } := by
  refine I.un ⟨fun b u q _ _ _ => k b u q, fun b u q _ _ _ => ⟨u.slots, k b u q⟩, fun b u q n _ => ?_, fun b u q _ => ⟨u, k b u q⟩, fun b xs q => hh _ _ q, fun b u xs q => hh _ _ q, fun b ps q => ⟨#[], by rw [hh _ _ q]; simp⟩⟩ fun b o e => ?_
  · cases z : H' b with
    | none => rfl
    | some u' =>
      have := (new b u' n z).1
      exact absurd (Nat.lt_of_lt_of_le (Heap.lt_size q) this) (Nat.lt_irrefl _)
  · cases z : H b with
    | none => exact (new b o z e).2
    | some u =>
      have e2 := hh b u z
      rw [e] at e2
      cases e2
      exact (I.hok b o z).stay (fun c v _ q => k c v q) (fun c q => hh _ _ q) fun c xs q => hh _ _ q
theorem refs_of : ∀ {l : List Value}, (∀ v, v ∈ l → ∃ T, v = .ref T) → ∃ ts : List Addr, l = ts.map Value.ref
  | [], _ => ⟨[], rfl⟩
  | v :: l, h => by
    obtain ⟨T, rfl⟩ := h v List.mem_cons_self
    obtain ⟨ts, rfl⟩ := refs_of (l := l) fun u hu => h u (List.mem_cons_of_mem _ hu)
    exact ⟨T :: ts, rfl⟩
theorem vals_refs : ∀ ts : List Addr, Vals (ts.map V.ref) (ts.map Value.ref)
  | [] => .nil
  | t :: ts => .cons rfl (vals_refs ts)
theorem vals_get : ∀ {xs : List V} {us : List Value} {j : Nat} {u : Value}, Vals xs us → us[j]? = some u → ∃ x, xs[j]? = some x ∧ RelV x u
  | _, _, j, _, .nil, h => by simp at h
  | _, _, 0, _, .cons r _, h => by simp at h; subst h; exact ⟨_, rfl, r⟩
  | _, _, j + 1, u, .cons _ t, h => by
    obtain ⟨x, e, r⟩ := vals_get (j := j) t (by simpa using h)
    exact ⟨x, by simpa using e, r⟩
def tLZ (K : PySem.W.Frag) (ta : TA) : TE := fun σ H Q => ta σ H fun vs H1 => ∃ (a b : Addr) (xs ys : List V), vs = [.ref a, .ref b] ∧ SqL K H1 a xs ∧ SqL K H1 b ys ∧
  ∀ (p : Addr) (ts : List Addr) (H2 : Hp), H1 p = none → ts.length = min xs.length ys.length → (∀ t, t ∈ ts → H1 t = none ∧ t ≠ p) → H2 p = some (.lst (ts.map V.ref)) →
    (∀ (j : Nat) t x y, ts[j]? = some t → xs[j]? = some x → ys[j]? = some y → H2 t = some (.tup [x, y])) → (∀ c, c ≠ p → c ∉ ts → H2 c = H1 c) → Q (.ref p) H2
open Classical in
/-- the heap behind: the list, the pairs -/
noncomputable def layZ (H1 : Hp) (p : Addr) (ts : List Addr) (xs ys : List V) : Hp := fun c =>
  if c = p then some (.lst (ts.map V.ref)) else
  if h : ∃ (j : Nat) (x y : V), ts[j]? = some c ∧ xs[j]? = some x ∧ ys[j]? = some y then some (.tup [choose (choose_spec h), choose (choose_spec (choose_spec h))]) else H1 c
theorem layZ_p {H1 : Hp} {p : Addr} {ts : List Addr} {xs ys : List V} : layZ H1 p ts xs ys p = some (.lst (ts.map V.ref)) := if_pos rfl
theorem layZ_t {H1 : Hp} {p c : Addr} {ts : List Addr} {xs ys : List V} (hp : c ≠ p) (nd : ∀ (j k : Nat) t, ts[j]? = some t → ts[k]? = some t → j = k) {j : Nat} {x y : V} (h1 : ts[j]? = some c) (h2 : xs[j]? = some x) (h3 : ys[j]? = some y) : layZ H1 p ts xs ys c = some (.tup [x, y]) := by
  unfold layZ
  rw [if_neg hp]
  have h : ∃ (j : Nat) (x y : V), ts[j]? = some c ∧ xs[j]? = some x ∧ ys[j]? = some y := ⟨j, x, y, h1, h2, h3⟩
  rw [dif_pos h]
  obtain ⟨a1, a2, a3⟩ := Classical.choose_spec (Classical.choose_spec (Classical.choose_spec h))
  have e := nd _ _ _ a1 h1
  have b2 := Option.some.inj (h2.symm.trans ((congrArg (fun k => xs[k]?) e).symm.trans a2))
  have b3 := Option.some.inj (h3.symm.trans ((congrArg (fun k => ys[k]?) e).symm.trans a3))
  have two : ∀ {u u' v v' : V}, u = u' → v = v' → (some (HO.tup [u', v']) : Option HO) = some (HO.tup [u, v]) := fun a b => by rw [a, b]
  exact two b2 b3
theorem layZ_o {H1 : Hp} {p c : Addr} {ts : List Addr} {xs ys : List V} (hp : c ≠ p) (hc : c ∉ ts) : layZ H1 p ts xs ys c = H1 c := by
  unfold layZ
  rw [if_neg hp, dif_neg]
  rintro ⟨j, x, y, h, _⟩
  exact hc (List.mem_of_getElem? h)
theorem layZ_new {H1 : Hp} {p c : Addr} {ts : List Addr} {xs ys : List V} {o : HO} (h : layZ H1 p ts xs ys c = some o) (hn : H1 c = none) : c = p ∨ ∃ (j : Nat) (x y : V), c ≠ p ∧ ts[j]? = some c ∧ xs[j]? = some x ∧ ys[j]? = some y := by
  by_cases hp : c = p
  · exact .inl hp
  · unfold layZ at h
    rw [if_neg hp] at h
    split at h
    · rename_i q
      obtain ⟨j, x, y, a1, a2, a3⟩ := q
      exact .inr ⟨j, x, y, hp, a1, a2, a3⟩
    · rw [hn] at h; cases h
theorem pe_listZip {X : Cx} {nl nz : Str} {pl pz pos zpos : Pos} {e e2 : Expr} {ta : TA} (hc : X.calm = true) (hgl : Gl X nl) (hml : X.mg nl = none) (hvl : bootBuiltins nl = some (.type "list")) (hgz : Gl X nz) (hmz : X.mg nz = none) (hvz : bootBuiltins nz = some (.type "zip"))
    (ha : PA X [e, e2] ta) (hnl : nl ≠ "__name__" := by decide) (hdl : (nl == ("__debug__" : Str)) = false := by decide) (hnz : nz ≠ "__name__" := by decide) (hdz : (nz == ("__debug__" : Str)) = false := by decide)
    (hs : starEach [e, e2] X.env = (false, eval e X.env) :: starEach [e2] X.env := by rfl) (hpl : (backTo zpos (starEach [e2] X.env)).any (·.1) = false := by rfl)
    (hs0 : starEach [.Call (.Name nz pz) [e, e2] [] zpos] X.env = [(false, eval (.Call (.Name nz pz) [e, e2] [] zpos) X.env)] := by rfl) :
    PE X (.Call (.Name nl pl) [.Call (.Name nz pz) [e, e2] [] zpos] [] pos) (tLZ X.K ta) := by
  refine ⟨fun pins s σ H Q I h => ?_⟩
  refine wpAny_Call_Name_kw (ld_blt I hgl hml hvl ?_ hnl hdl)
  refine PyProof.Rows.callWith_type1 ?_ (by rw [hs0]; rfl) rfl
  rw [hs0]
  show wpAny _ _ (spliced ((false, eval (.Call (.Name nz pz) [e, e2] [] zpos) X.env) :: [])) _ _ s
  refine Calls.spliced_cons ?_
  refine wpAny_Call_Name_kw (ld_blt I hgz hmz hvz ?_ hnz hdz)
  refine PyProof.Rows.callWith_type1 (thn (ha.run zpos pins s σ H _ I h) fun us s1 ⟨vs, H1, I1, r1, q1⟩ => ?_) hs hpl
  obtain ⟨a, b, xs, ys, ex, hqx, hqy, q⟩ := q1
  subst ex
  cases r1 with
  | cons r rr =>
    cases rr with
    | cons r' rr =>
      cases rr
      cases r
      cases r'
      obtain ⟨its, rv, p1, z1⟩ := I1.list hqx
      obtain ⟨its2, rv2, p2, z2⟩ := I1.list hqy
      have la : a < s1.heap.objs.size := p1.lt
      have lb : b < s1.heap.objs.size := p2.lt
      refine call_zip_2 p1.isList p2.isList fun h' hz hTI hTO h1 h2 hsz hk => Calls.spliced_nil ?_
      have l1 : h'.IsList a its.toArray := by obtain ⟨o, ho, hr⟩ := p1.isList; exact ⟨o, hk _ _ ho, hr⟩
      have l2 : h'.IsList b its2.toArray := by obtain ⟨o, ho, hr⟩ := p2.isList; exact ⟨o, hk _ _ ho, hr⟩
      have len1 := rv.length
      have len2 := rv2.length
      have hn : min its.toArray.size its2.toArray.size ≤ sizeLine := by
        simp only [List.size_toArray]
        omega
      refine call_list_zip (s := { s1 with heap := h' }) (I1.ok.hd hc) (PySem.W.ktu_apart s1.heap.objs.size a b la lb) hn hz hTI hTO h1 h2 l1 l2 fun h'' acc' c' kp hS hacc => ?_
      have hN : s1.heap.objs.size ≤ h'.objs.size := by rw [hsz]; exact Nat.le_add_right _ _
      have hS : h''.get? h'.objs.size = some { cls := .type "list", data := .seq acc' c' } := hS
      have hacc : PairsAt h'.objs.size h'' its.toArray its2.toArray acc' (min its.toArray.size its2.toArray.size) := hacc
      obtain ⟨ts, hts⟩ := refs_of (l := acc'.toList) fun v hv => by
        obtain ⟨j, hj, e⟩ := List.getElem_of_mem hv
        obtain ⟨T, x, y, e1, _⟩ := hacc.2.1 j v (by rw [← Array.getElem?_toList, List.getElem?_eq_getElem hj, e])
        exact ⟨T, e1⟩
      have tget : ∀ (j : Nat) t, ts[j]? = some t → acc'[j]? = some (.ref t) := fun j t e => by
        rw [← Array.getElem?_toList, hts, List.getElem?_map, e]
        rfl
      have tsl : ts.length = min xs.length ys.length := by
        have e1 : acc'.toList.length = ts.length := by rw [hts, List.length_map]
        rw [← e1, Array.length_toList, hacc.1]
        simp only [List.size_toArray]
        rw [len1, len2]
      have tnew : ∀ t, t ∈ ts → h'.objs.size < t := fun t ht => by
        obtain ⟨j, hj, e⟩ := List.getElem_of_mem ht
        obtain ⟨T, x, y, e1, e0, _⟩ := hacc.2.1 j (.ref t) (tget j t (by rw [List.getElem?_eq_getElem hj, e]))
        cases e1
        exact e0
      have nd : ∀ (j k : Nat) t, ts[j]? = some t → ts[k]? = some t → j = k := fun j k t a1 a2 => hacc.2.2 j k _ (tget j t a1) (tget k t a2)
      have fS : H1 h'.objs.size = none := I1.hok.fresh hN
      have fT : ∀ t, t ∈ ts → H1 t = none ∧ t ≠ h'.objs.size := fun t ht => ⟨I1.hok.fresh (Nat.le_trans hN (Nat.le_of_lt (tnew t ht))), Nat.ne_of_gt (tnew t ht)⟩
      have old : ∀ b u, s1.heap.get? b = some u → h''.get? b = some u := fun b u e => by
        have lt := Heap.lt_size e
        exact kp b u (Nat.ne_of_lt (Nat.lt_of_lt_of_le lt (Nat.le_add_right _ _))) (Nat.ne_of_lt (Nat.lt_of_lt_of_le lt (Nat.le_add_right _ _))) (Nat.ne_of_lt lt) (Nat.ne_of_lt (Nat.lt_of_lt_of_le lt (Nat.le_add_right _ _))) (hk b u e)
      have I2 : L2.Inv X pins σ (layZ H1 h'.objs.size ts xs ys) { s1 with heap := h'' } := by
        refine inv_lay (t' := s1.toks) I1 old (fun b o e => ?_) fun b o hn0 e => ?_
        · rw [layZ_o (fun z => by rw [z, fS] at e; cases e) (fun z => by rw [(fT b z).1] at e; cases e)]
          exact e
        · rcases layZ_new e hn0 with rfl | ⟨j, x, y, hp, a1, a2, a3⟩
          · rw [layZ_p] at e
            cases e
            refine ⟨hN, ?_, acc'.toList, c', ?_, ?_⟩
            · rw [List.length_map, tsl]; omega
            · rw [hts]; exact vals_refs ts
            · rw [Array.toArray_toList]; exact hS
          · rw [layZ_t hp nd a1 a2 a3] at e
            cases e
            obtain ⟨T, u1, u2, e1, e0, e2, e3, e4⟩ := hacc.2.1 j _ (tget j b a1)
            cases e1
            obtain ⟨x', g1, g2⟩ := vals_get (j := j) (u := u1) rv (by simpa using e3)
            obtain ⟨y', g3, g4⟩ := vals_get (j := j) (u := u2) rv2 (by simpa using e4)
            rw [a2] at g1
            rw [a3] at g3
            cases g1
            cases g3
            exact ⟨Nat.le_trans hN (Nat.le_of_lt e0), by show 2 ≤ sizeLine; decide, [u1, u2], .cons g2 (.cons g4 .nil), _, e2, rfl, _, rfl⟩
      exact ⟨.ref h'.objs.size, _, I2, rfl, q h'.objs.size ts _ fS tsl fT layZ_p (fun j t x y a1 a2 a3 => layZ_t (fT t (List.mem_of_getElem? a1)).2 nd a1 a2 a3) fun c c1 c2 => layZ_o c1 c2⟩
end ZK

set_option Elab.async false
set_option linter.all false
set_option maxRecDepth 100000
set_option maxHeartbeats 2000000
/-! The data layer: list(zip(a, b)). -/
namespace DL
open PySem PySem.Spec PyProof.Rows L2
theorem repL_of {K : PySem.W.Frag} {fa : Option FA} {F : Hp} : ∀ {ds : List D} {vs : List V}, ds.length = vs.length → (∀ (j : Nat) d v, ds[j]? = some d → vs[j]? = some v → Rep K fa F d v) → RepL K fa F ds vs
  | [], [], _, _ => .nil
  | [], _ :: _, h, _ => by simp at h
  | _ :: _, [], h, _ => by simp at h
  | d :: ds, v :: vs, h, k => .cons (k 0 d v rfl rfl) (repL_of (by simpa using h) fun j d' v' a b => k (j + 1) d' v' (by simpa using a) (by simpa using b))
theorem zipD_lenA : ∀ xs ys : List D, (zipD xs ys).length = min xs.length ys.length
  | [], ys => by simp [zipD]
  | x :: xs, [] => by simp [zipD]
  | x :: xs, y :: ys => by simp [zipD, zipD_lenA xs ys]
theorem zipD_getA : ∀ {xs ys : List D} {j : Nat} {d : D}, (zipD xs ys)[j]? = some d → ∃ x y, xs[j]? = some x ∧ ys[j]? = some y ∧ d = .tup [x, y]
  | [], ys, j, d, h => by simp [zipD] at h
  | x :: xs, [], j, d, h => by simp [zipD] at h
  | x :: xs, y :: ys, 0, d, h => by simp [zipD] at h; exact ⟨x, y, rfl, rfl, h.symm⟩
  | x :: xs, y :: ys, j + 1, d, h => by
    obtain ⟨a, b, h1, h2, h3⟩ := zipD_getA (xs := xs) (ys := ys) (j := j) (d := d) (by simpa [zipD] using h)
    exact ⟨a, b, by simpa using h1, by simpa using h2, h3⟩
def zipLD : List D → Option D
  | [.lst xs, .lst ys] => some (.lst (zipD xs ys))
  | _ => none
section
variable {X : Cx} {fa : Option FA} {W : L2.St → XK} {fl : Env' → M (List D)}
open Classical in
theorem ed_listZip {nl nz : Str} {pl pz pos zpos : Pos} {e e2 : Expr} (hc : X.calm = true) (hml : X.mg nl = none) (hmz : X.mg nz = none) (ha : LD X fa W [e, e2] fl) (hgl : Gl X nl := by rfl) (hvl : bootBuiltins nl = some (.type "list") := by decide +kernel) (hgz : Gl X nz := by rfl) (hvz : bootBuiltins nz = some (.type "zip") := by decide +kernel)
    (hnl : nl ≠ "__name__" := by decide) (hdl : (nl == ("__debug__" : Str)) = false := by decide) (hnz : nz ≠ "__name__" := by decide) (hdz : (nz == ("__debug__" : Str)) = false := by decide)
    (hs : starEach [e, e2] X.env = (false, eval e X.env) :: starEach [e2] X.env := by rfl) (hpl : (backTo zpos (starEach [e2] X.env)).any (·.1) = false := by rfl)
    (hs0 : starEach [.Call (.Name nz pz) [e, e2] [] zpos] X.env = [(false, eval (.Call (.Name nz pz) [e, e2] [] zpos) X.env)] := by rfl) :
    ED X fa W (.Call (.Name nl pl) [.Call (.Name nz pz) [e, e2] [] zpos] [] pos) (dFn zipLD fl) := by
  obtain ⟨ta, pa, ka⟩ := ha
  refine ⟨_, ZK.pe_listZip hc hgl hml hvl hgz hmz hvz pa hnl hdl hnz hdz hs hpl hs0, fun σ F H ρ s Q h1 h2 h3 h => ?_⟩
  refine ka.then Good.tgt h1 h2 h3 h fun ds s1 vs F1 H1 e1 o1 r1 v1 h' => ?_
  have h' := Good.lift h'
  cases r1 with
  | nil => exact h'.elim
  | cons ra t =>
    cases t with
    | nil => cases ra <;> exact h'.elim
    | cons rb t =>
      cases t with
      | cons _ _ => cases ra <;> cases rb <;> exact h'.elim
      | nil =>
        cases ra with
        | @lst a xs us ha ra =>
          cases rb with
          | @lst b ys ws hb rb =>
            refine ⟨a, b, us, ws, rfl, SqL.of (e1.fh _ _ ha), SqL.of (e1.fh _ _ hb), fun p ts H2 hp hl ht hP hT hO => ?_⟩
            have fp : F1 p = none := Same.free e1.fh hp
            have ft : ∀ t, t ∈ ts → F1 t = none := fun t h => Same.free e1.fh (ht t h).1
            have oldH : ∀ c, H1 c ≠ none → H2 c = H1 c := fun c hc => hO c (fun z => hc (z ▸ hp)) fun z => hc (ht c z).1
            let F2 : Hp := fun c => if c = p ∨ c ∈ ts then H2 c else F1 c
            have f2n : ∀ c, (c = p ∨ c ∈ ts) → F2 c = H2 c := fun c hc => if_pos hc
            have f2o : ∀ c, H1 c ≠ none → F2 c = F1 c := fun c hc => if_neg fun z => z.elim (fun z => hc (z ▸ hp)) fun z => hc (ht c z).1
            have sf : Same F1 F2 := fun c o ec => by
              rw [f2o c (by rw [e1.fh _ _ ec]; simp)]; exact ec
            have ex : Ext fa F1 H1 F2 H2 := by
              refine ⟨sf, fun c o ec => ?_, fun c o ec _ => by rw [oldH c (by rw [ec]; simp)]; exact ec, fun c hc => f2o c hc, fun c hc => by rw [oldH c hc]; exact hc⟩
              by_cases hc : c = p ∨ c ∈ ts
              · rw [f2n c hc] at ec; exact ec
              · have e0 : F1 c = some o := by
                  have : F2 c = F1 c := if_neg hc
                  rw [← this]; exact ec
                have e2 := e1.fh _ _ e0
                rw [oldH c (by rw [e2]; simp)]; exact e2
            refine h' (.ref p) F2 H2 ex (o1.ext_same sf (fun c o ec => by rw [oldH c (by rw [ec]; simp)]; exact ec) fun c hc => f2o c hc) (.lst (by rw [f2n p (.inl rfl)]; exact hP) (repL_of (by rw [zipD_lenA, List.length_map, hl, ra.length, rb.length]) fun j d v hd hv => ?_))
            obtain ⟨x, y, hx, hy, rfl⟩ := zipD_getA hd
            rw [List.getElem?_map] at hv
            cases q : ts[j]? with
            | none => rw [q] at hv; cases hv
            | some t =>
              rw [q] at hv
              cases hv
              obtain ⟨u, hu, ru⟩ := ra.get' hx
              obtain ⟨w, hw, rw'⟩ := rb.get' hy
              refine .tup (.inl (.inl ?_)) (.cons (ru.mono sf) (.cons (rw'.mono sf) .nil))
              rw [f2n t (.inr (List.mem_of_getElem? q))]
              exact hT j t u w q hu hw
          | _ => exact h'.elim
        | _ => cases rb <;> exact h'.elim
end
end DL

set_option Elab.async false
set_option linter.all false
set_option maxRecDepth 100000
set_option maxHeartbeats 4000000
namespace Q
open PySem PySem.Spec PyProof.Rows L2 DL
def topS (i : Nat) : Stmt := PySem.Challenge.pw_quietsides_k05_two_shapes_aligned.main.body.getD i (.Pass ⟨0, 0, 0, 0⟩)

structure Txt (mg : Str → Option Value) : Prop where
  all_ : mg "all" = none
  dict_ : mg "dict" = none
  int_ : mg "int" = none
  isinstance_ : mg "isinstance" = none
  len_ : mg "len" = none
  list_ : mg "list" = none
  max_ : mg "max" = none
  range_ : mg "range" = none
  repr_ : mg "repr" = none
  sorted_ : mg "sorted" = none
  str_ : mg "str" = none
  tuple_ : mg "tuple" = none
  zip_ : mg "zip" = none
  MOST_DIMENSIONS_ : ∃ t, mg "MOST_DIMENSIONS" = some (.int 4 t)
abbrev s_size_of : Stmt := topS 2
abbrev n_size_of : List Str := ["dimension", "sizes"]
theorem sc_size_of : FnScope n_size_of ["dimension", "sizes"] (defScope s_size_of) := ⟨rfl, rfl, rfl, by decide +kernel, rfl, by decide +kernel, by decide +kernel⟩
theorem nd_size_of : List.Nodup n_size_of := sc_size_of.nd
def b_size_of : Sts → M (Fl × Sts) :=
  (gRet (dIf (cTru (dFn isiD (lCons (dVar 0) (lCons (dC (.opq (.ty "str"))) lNil)))) (dOp ixD (dVar 1) (dVar 0)) (dVar 0)))
def g_size_of : List D → M D := runD 2 2 b_size_of
theorem fo_size_of {P : Program} {w : World} {K : PySem.W.Frag} {mg : Str → Option Value} {base : Heap} (T : Txt mg) (f : Addr) (fd : FuncData) (F : Fun K "size_of" "size_of" s_size_of f fd) : FnOk P w K mg base (L2.CX P w) 1 f fd ["dimension", "sizes"] (DSp K mg g_size_of) :=
  fn_d (k := 0) F sc_size_of (by decide) fun cdv A outer s H E fa hr => by
    have hu65 : (A.deeper (envOfC "size_of" (defScope s_size_of) s.heap.objs.size f cdv)).units + 65 < cLine := by
      have := hr.un
      omega
    have hu64 : (A.deeper (envOfC "size_of" (defScope s_size_of) s.heap.objs.size f cdv)).units + 64 < cLine := by omega
    have hu1 : (A.deeper (envOfC "size_of" (defScope s_size_of) s.heap.objs.size f cdv)).units + 1 < cLine := by omega
    exact (ssj_one (sj_ret (ed_if (td_tru (ed_callB call_isi ok_isi T.isinstance_ (ld_cons (ed_var 0) (ld_cons (ed_ty "str" T.str_) ld_nil)))) (ed_ix hu1 (ed_var 1) (ed_var 0)) (ed_var 0))))
theorem cal_size_of {P : Program} {w : World} {K : PySem.W.Frag} {mg : Str → Option Value} {base : Heap} (T : Txt mg) (D0 : Dff K mg "size_of" ["dimension", "sizes"] s_size_of) : Cal P w K mg base 1 "size_of" ["dimension", "sizes"] g_size_of := cal_of D0 (fo_size_of T)
theorem kal_size_of {P : Program} {w : World} {K : PySem.W.Frag} {mg : Str → Option Value} {base : Heap} (T : Txt mg) (D0 : Kff K mg "size_of" ["dimension", "sizes"] 0 ["dimension", "sizes"] s_size_of) : Kal P w K mg base 1 "size_of" ["dimension", "sizes"] 0 ["dimension", "sizes"] g_size_of := kal_of D0 (fo_size_of T)
abbrev s_aligned : Stmt := topS 3
abbrev n_aligned : List Str := ["one", "other", "many", "first", "second"]
theorem sc_aligned : FnScope n_aligned ["one", "other"] (defScope s_aligned) := ⟨rfl, rfl, rfl, by decide +kernel, rfl, by decide +kernel, by decide +kernel⟩
theorem nd_aligned : List.Nodup n_aligned := sc_aligned.nd
def b_aligned : Sts → M (Fl × Sts) :=
  (gSeq (gSet 2 (vMask (dFn maxD (lCons (dFn lenD (lCons (dVar 0) lNil)) (lCons (dFn lenD (lCons (dVar 1) lNil)) lNil)))))
    (gSeq (gPar 3 4 (vMask (dOp mulD (dFn mkLst (lCons (dC .non) lNil)) (dOp subD (dVar 2) (dFn lenD (lCons (dVar 0) lNil))))) (vMask (dOp mulD (dFn mkLst (lCons (dC .non) lNil)) (dOp subD (dVar 2) (dFn lenD (lCons (dVar 1) lNil))))))
    (gRet (dFn zipLD (lCons (dFn mkLst (lStar (dVar 3) (lStar (dVar 0) lNil))) (lCons (dFn mkLst (lStar (dVar 4) (lStar (dVar 1) lNil))) lNil))))))
def g_aligned : List D → M D := runD 5 2 b_aligned
theorem fo_aligned {P : Program} {w : World} {K : PySem.W.Frag} {mg : Str → Option Value} {base : Heap} (T : Txt mg) (f : Addr) (fd : FuncData) (F : Fun K "aligned" "aligned" s_aligned f fd) : FnOk P w K mg base (L2.CX P w) 1 f fd ["one", "other"] (DSp K mg g_aligned) :=
  fn_d (k := 0) F sc_aligned (by decide) fun cdv A outer s H E fa hr => by
    have hu65 : (A.deeper (envOfC "aligned" (defScope s_aligned) s.heap.objs.size f cdv)).units + 65 < cLine := by
      have := hr.un
      omega
    have hu64 : (A.deeper (envOfC "aligned" (defScope s_aligned) s.heap.objs.size f cdv)).units + 64 < cLine := by omega
    have hu1 : (A.deeper (envOfC "aligned" (defScope s_aligned) s.heap.objs.size f cdv)).units + 1 < cLine := by omega
    exact (ssj_cons (sj_set (i := 2) nd_aligned (vj_mask (ed_callB (crl_max rfl) ok_max T.max_ (ld_cons (ed_callB crl_len ok_len T.len_ (ld_cons (ed_var 0) ld_nil)) (ld_cons (ed_callB crl_len ok_len T.len_ (ld_cons (ed_var 1) ld_nil)) ld_nil)))))
    (ssj_cons (sj_par (i := 3) (j := 4) rfl nd_aligned (vj_mask (ed_op opr_mul ok_mul (ed_lst (ld_cons ed_non ld_nil)) (ed_op op_sub ok_sub (ed_var 2) (ed_callB crl_len ok_len T.len_ (ld_cons (ed_var 0) ld_nil))))) (vj_mask (ed_op opr_mul ok_mul (ed_lst (ld_cons ed_non ld_nil)) (ed_op op_sub ok_sub (ed_var 2) (ed_callB crl_len ok_len T.len_ (ld_cons (ed_var 1) ld_nil))))))
    (ssj_one (sj_ret (ed_listZip rfl T.list_ T.zip_ (ld_cons (ed_lst (ld_star (ed_var 3) (ld_star (ed_var 0) ld_nil))) (ld_cons (ed_lst (ld_star (ed_var 4) (ld_star (ed_var 1) ld_nil))) ld_nil)))))))
theorem cal_aligned {P : Program} {w : World} {K : PySem.W.Frag} {mg : Str → Option Value} {base : Heap} (T : Txt mg) (D0 : Dff K mg "aligned" ["one", "other"] s_aligned) : Cal P w K mg base 1 "aligned" ["one", "other"] g_aligned := cal_of D0 (fo_aligned T)
theorem kal_aligned {P : Program} {w : World} {K : PySem.W.Frag} {mg : Str → Option Value} {base : Heap} (T : Txt mg) (D0 : Kff K mg "aligned" ["one", "other"] 0 ["one", "other"] s_aligned) : Kal P w K mg base 1 "aligned" ["one", "other"] 0 ["one", "other"] g_aligned := kal_of D0 (fo_aligned T)
abbrev s_met : Stmt := topS 4
abbrev n_met : List Str := ["one", "other", "sizes", "left", "right"]
theorem sc_met : FnScope n_met ["one", "other", "sizes"] (defScope s_met) := ⟨rfl, rfl, rfl, by decide +kernel, rfl, by decide +kernel, by decide +kernel⟩
theorem nd_met : List.Nodup n_met := sc_met.nd
def b_met : Sts → M (Fl × Sts) :=
  (gSeq (gIf (cOr (cCmp isD (dVar 0) (dC .non)) (cCmp isD (dVar 1) (dC .non))) (gRet (dIf (cCmp isD (dVar 0) (dC .non)) (dVar 1) (dVar 0))) gNext)
    (gSeq (gPar 3 4 (vMask (dCall g_size_of (lCons (dVar 0) (lCons (dVar 2) lNil)))) (vMask (dCall g_size_of (lCons (dVar 1) (lCons (dVar 2) lNil)))))
    (gSeq (gIf (cCmp eqD (dVar 3) (dVar 4)) (gRet (dIf (cCmp eqD (dVar 0) (dC (.int 1))) (dVar 1) (dVar 0))) gNext)
    (gSeq (gIf (cCmp eqD (dVar 3) (dC (.int 1))) (gRet (dVar 1)) gNext)
    (gRet (dIf (cCmp eqD (dVar 4) (dC (.int 1))) (dVar 0) (dC .non)))))))
def g_met : List D → M D := runD 5 3 b_met
theorem fo_met {P : Program} {w : World} {K : PySem.W.Frag} {mg : Str → Option Value} {base : Heap} (T : Txt mg) (C_size_of : Cal P w K mg base 1 "size_of" ["dimension", "sizes"] g_size_of) (f : Addr) (fd : FuncData) (F : Fun K "met" "met" s_met f fd) : FnOk P w K mg base (L2.CX P w) 2 f fd ["one", "other", "sizes"] (DSp K mg g_met) :=
  fn_d (k := 1) F sc_met (by decide) fun cdv A outer s H E fa hr => by
    have hu65 : (A.deeper (envOfC "met" (defScope s_met) s.heap.objs.size f cdv)).units + 65 < cLine := by
      have := hr.un
      omega
    have hu64 : (A.deeper (envOfC "met" (defScope s_met) s.heap.objs.size f cdv)).units + 64 < cLine := by omega
    have hu1 : (A.deeper (envOfC "met" (defScope s_met) s.heap.objs.size f cdv)).units + 1 < cLine := by omega
    exact (ssj_cons (sj_if (TWD.td (twd_or (td_cmp op_isN ok_is (ed_var 0) ed_non) (twd_or1 (td_cmp op_isN ok_is (ed_var 1) ed_non)))) (ssj_one (sj_ret (ed_if (td_cmp op_isN ok_is (ed_var 0) ed_non) (ed_var 1) (ed_var 0)))) ssj_nil)
    (ssj_cons (sj_par (i := 3) (j := 4) rfl nd_met (vj_mask (ed_cal C_size_of (hr.mono (by decide)) pass_def (ld_cons (ed_var 0) (ld_cons (ed_var 2) ld_nil)))) (vj_mask (ed_cal C_size_of (hr.mono (by decide)) pass_def (ld_cons (ed_var 1) (ld_cons (ed_var 2) ld_nil)))))
    (ssj_cons (sj_if (td_cmp (opr_eq hu64) ok_eq (ed_var 3) (ed_var 4)) (ssj_one (sj_ret (ed_if (td_cmp (opr_eq hu64) ok_eq (ed_var 0) ed_int) (ed_var 1) (ed_var 0)))) ssj_nil)
    (ssj_cons (sj_if (td_cmp (opr_eq hu64) ok_eq (ed_var 3) ed_int) (ssj_one (sj_ret (ed_var 1))) ssj_nil)
    (ssj_one (sj_ret (ed_if (td_cmp (opr_eq hu64) ok_eq (ed_var 4) ed_int) (ed_var 0) ed_non)))))))
theorem cal_met {P : Program} {w : World} {K : PySem.W.Frag} {mg : Str → Option Value} {base : Heap} (T : Txt mg) (D0 : Dff K mg "met" ["one", "other", "sizes"] s_met) (C_size_of : Cal P w K mg base 1 "size_of" ["dimension", "sizes"] g_size_of) : Cal P w K mg base 2 "met" ["one", "other", "sizes"] g_met := cal_of D0 (fo_met T C_size_of)
theorem kal_met {P : Program} {w : World} {K : PySem.W.Frag} {mg : Str → Option Value} {base : Heap} (T : Txt mg) (D0 : Kff K mg "met" ["one", "other", "sizes"] 0 ["one", "other", "sizes"] s_met) (C_size_of : Cal P w K mg base 1 "size_of" ["dimension", "sizes"] g_size_of) : Kal P w K mg base 2 "met" ["one", "other", "sizes"] 0 ["one", "other", "sizes"] g_met := kal_of D0 (fo_met T C_size_of)
abbrev s_broadcast : Stmt := topS 5
abbrev n_broadcast : List Str := ["one", "other", "sizes", "found", "left", "right"]
theorem sc_broadcast : FnScope n_broadcast ["one", "other", "sizes"] (defScope s_broadcast) := ⟨rfl, rfl, rfl, by decide +kernel, rfl, by decide +kernel, by decide +kernel⟩
theorem nd_broadcast : List.Nodup n_broadcast := sc_broadcast.nd
def b_broadcast : Sts → M (Fl × Sts) :=
  (gSeq (gSet 3 (vNew (dLc (iAny (dCall g_aligned (lCons (dVar 0) (lCons (dVar 1) lNil)))) (bTup (bCons (bName 4) (bCons (bName 5) bNil))) cYes (dCall g_met (lCons (dVar 4) (lCons (dVar 5) (lCons (dVar 2) lNil)))))))
    (gFrz 3 (gRet (dIf (cOr (cCmp inD (dC .non) (dVar 3)) (cCmp gtD (dFn lenD (lCons (dVar 3) lNil)) (dC (.int 4)))) (dC .non) (dFn tupleD (lCons (dVar 3) lNil))))))
def g_broadcast : List D → M D := runD 6 3 b_broadcast
theorem fo_broadcast {P : Program} {w : World} {K : PySem.W.Frag} {mg : Str → Option Value} {base : Heap} (T : Txt mg) (C_aligned : Cal P w K mg base 1 "aligned" ["one", "other"] g_aligned) (C_met : Cal P w K mg base 2 "met" ["one", "other", "sizes"] g_met) (f : Addr) (fd : FuncData) (F : Fun K "broadcast" "broadcast" s_broadcast f fd) : FnOk P w K mg base (L2.CX P w) 3 f fd ["one", "other", "sizes"] (DSp K mg g_broadcast) :=
  fn_d (k := 2) F sc_broadcast (by decide) fun cdv A outer s H E fa hr => by
    have hu65 : (A.deeper (envOfC "broadcast" (defScope s_broadcast) s.heap.objs.size f cdv)).units + 65 < cLine := by
      have := hr.un
      omega
    have hu64 : (A.deeper (envOfC "broadcast" (defScope s_broadcast) s.heap.objs.size f cdv)).units + 64 < cLine := by omega
    have hu1 : (A.deeper (envOfC "broadcast" (defScope s_broadcast) s.heap.objs.size f cdv)).units + 1 < cLine := by omega
    exact (ssj_cons (sj_setLc (i := 3) rfl nd_broadcast (ij_any (ed_cal C_aligned (hr.mono (by decide)) pass_def (ld_cons (ed_var 0) (ld_cons (ed_var 1) ld_nil)))) (blkOk_by (own := [("left", 4), ("right", 5)]) (N := n_broadcast) (sc := defScope s_broadcast) (by decide +kernel)) (by decide) (by decide) (fun _ _ _ _ _ => (tj_tup rfl (tsj_cons (tj_name (i := 4) nd_broadcast) (tsj_cons (tj_name (i := 5) nd_broadcast) tsj_nil)) (bCons_len (bCons_len bNil_len)))) (fun _ _ _ _ _ => ptd_nil) (fun _ _ _ _ _ => (ed_cal C_met (hr.mono (by decide)) pass_blk (ld_cons (ed_var 4) (ld_cons (ed_var 5) (ld_cons (ed_var 2) ld_nil))))))
    (ssj_frz 3 (ssj_one (sj_ret (ed_if (TWD.td (twd_or (td_cmp (opr_in hu65) ok_in ed_non (ed_var 3)) (twd_or1 (td_cmp op_gt ok_gt (ed_callB crl_len ok_len T.len_ (ld_cons (ed_var 3) ld_nil)) (ed_gint T.MOST_DIMENSIONS_))))) ed_non (ed_callTy call_tuple_of ok_tuple T.tuple_ (ld_cons (ed_var 3) ld_nil)))))))
theorem cal_broadcast {P : Program} {w : World} {K : PySem.W.Frag} {mg : Str → Option Value} {base : Heap} (T : Txt mg) (D0 : Dff K mg "broadcast" ["one", "other", "sizes"] s_broadcast) (C_aligned : Cal P w K mg base 1 "aligned" ["one", "other"] g_aligned) (C_met : Cal P w K mg base 2 "met" ["one", "other", "sizes"] g_met) : Cal P w K mg base 3 "broadcast" ["one", "other", "sizes"] g_broadcast := cal_of D0 (fo_broadcast T C_aligned C_met)
theorem kal_broadcast {P : Program} {w : World} {K : PySem.W.Frag} {mg : Str → Option Value} {base : Heap} (T : Txt mg) (D0 : Kff K mg "broadcast" ["one", "other", "sizes"] 0 ["one", "other", "sizes"] s_broadcast) (C_aligned : Cal P w K mg base 1 "aligned" ["one", "other"] g_aligned) (C_met : Cal P w K mg base 2 "met" ["one", "other", "sizes"] g_met) : Kal P w K mg base 3 "broadcast" ["one", "other", "sizes"] 0 ["one", "other", "sizes"] g_broadcast := kal_of D0 (fo_broadcast T C_aligned C_met)
abbrev s_law_feed : Stmt := topS 7
abbrev n_law_feed : List Str := ["_law_script", "_law_stir", "_law_cell"]
theorem sc_law_feed : FnScope n_law_feed ["_law_script"] (defScope s_law_feed) := ⟨rfl, rfl, rfl, by decide +kernel, rfl, by decide +kernel, by decide +kernel⟩
theorem nd_law_feed : List.Nodup n_law_feed := sc_law_feed.nd
def b_law_feed : Sts → M (Fl × Sts) :=
  (gSeq (gSet 1 (vMask (dC (.int 10019))))
    (gSeq (gFor (iAny (dSl (dVar 0) oNo (oSome (dC (.int 63))))) (bName 2) (gSet 1 (vMask (dOp modD (dFn intF (lCons (dOp addD (dOp addD (dOp mulD (dVar 1) (dC (.int 40961))) (dOp modD (dFn intF (lCons (dVar 2) lNil)) (dC (.int 2147483029)))) (dC (.int 77))) lNil)) (dC (.int 2147483477))))))
    (gRet (dFn mkLst (lCons (dFn listA (lCons (dSl (dVar 0) oNo (oSome (dC (.int 63)))) lNil)) (lCons (dC (.int 0)) (lCons (dC (.int 0)) (lCons (dC (.int 0)) (lCons (dVar 1) lNil)))))))))
def g_law_feed : List D → M D := runD 3 1 b_law_feed
theorem fo_law_feed {P : Program} {w : World} {K : PySem.W.Frag} {mg : Str → Option Value} {base : Heap} (T : Txt mg) (f : Addr) (fd : FuncData) (F : Fun K "_law_feed" "_law_feed" s_law_feed f fd) : FnOk P w K mg base (L2.CX P w) 1 f fd ["_law_script"] (DSp K mg g_law_feed) :=
  fn_d (k := 0) F sc_law_feed (by decide) fun cdv A outer s H E fa hr => by
    have hu65 : (A.deeper (envOfC "_law_feed" (defScope s_law_feed) s.heap.objs.size f cdv)).units + 65 < cLine := by
      have := hr.un
      omega
    have hu64 : (A.deeper (envOfC "_law_feed" (defScope s_law_feed) s.heap.objs.size f cdv)).units + 64 < cLine := by omega
    have hu1 : (A.deeper (envOfC "_law_feed" (defScope s_law_feed) s.heap.objs.size f cdv)).units + 1 < cLine := by omega
    exact (ssj_cons (sj_set (i := 1) nd_law_feed (vj_mask ed_int))
    (ssj_cons (sj_for (passes_of rfl) rfl (ij_any (ed_slice (ed_var 0) oj_none (oj_some ed_int))) (tj_name (i := 2) nd_law_feed) (ssj_one (sj_set (i := 1) nd_law_feed (vj_mask (ed_op op_mod ok_mod (ed_callTy call_int1 ok_int T.int_ (ld_cons (ed_op opr_add ok_add (ed_op opr_add ok_add (ed_op opr_mul ok_mul (ed_var 1) ed_int) (ed_op op_mod ok_mod (ed_callTy call_int1 ok_int T.int_ (ld_cons (ed_var 2) ld_nil)) ed_int)) ed_int) ld_nil)) ed_int)))))
    (ssj_one (sj_ret (ed_lst (ld_cons (ed_callTy (call_listA rfl) ok_listA T.list_ (ld_cons (ed_slice (ed_var 0) oj_none (oj_some ed_int)) ld_nil)) (ld_cons ed_int (ld_cons ed_int (ld_cons ed_int (ld_cons (ed_var 1) ld_nil))))))))))
theorem cal_law_feed {P : Program} {w : World} {K : PySem.W.Frag} {mg : Str → Option Value} {base : Heap} (T : Txt mg) (D0 : Dff K mg "_law_feed" ["_law_script"] s_law_feed) : Cal P w K mg base 1 "_law_feed" ["_law_script"] g_law_feed := cal_of D0 (fo_law_feed T)
theorem kal_law_feed {P : Program} {w : World} {K : PySem.W.Frag} {mg : Str → Option Value} {base : Heap} (T : Txt mg) (D0 : Kff K mg "_law_feed" ["_law_script"] 0 ["_law_script"] s_law_feed) : Kal P w K mg base 1 "_law_feed" ["_law_script"] 0 ["_law_script"] g_law_feed := kal_of D0 (fo_law_feed T)
abbrev s_law_draw : Stmt := topS 8
abbrev n_law_draw : List Str := ["_law_feed_here", "_law_upto", "_law_cell", "_law_digit", "_law_late"]
theorem sc_law_draw : FnScope n_law_draw ["_law_feed_here", "_law_upto"] (defScope s_law_draw) := ⟨rfl, rfl, rfl, by decide +kernel, rfl, by decide +kernel, by decide +kernel⟩
theorem nd_law_draw : List.Nodup n_law_draw := sc_law_draw.nd
def h_law_draw : DS → Option (Option Int × DS) :=
  (hSeq (hStore (dOp addD (dOp ixD (dVar 0) (dC (.int 3))) (dC (.int 1))) 3)
    (hSeq (hIf (cAnd (cCmp eqD (dOp ixD (dVar 0) (dC (.int 2))) (dC (.int 0))) (cCmp ltD (dOp ixD (dVar 0) (dC (.int 1))) (dFn lenD (lCons (dOp ixD (dVar 0) (dC (.int 0))) lNil)))) (hSeq (hSet 1 (dOp ixD (dOp ixD (dVar 0) (dC (.int 0))) (dOp ixD (dVar 0) (dC (.int 1)))))
    (hSeq (hStore (dOp addD (dOp ixD (dVar 0) (dC (.int 1))) (dC (.int 1))) 1)
    (hIf (cCmp geD (dVar 2) (dOp powD (dC (.int 10)) (dC (.int 18)))) (hStore (dVar 2) 2) (hStore (dOp modD (dFn intF (lCons (dOp addD (dOp addD (dOp mulD (dOp ixD (dVar 0) (dC (.int 4))) (dC (.int 30203))) (dOp mulD (dOp modD (dFn intF (lCons (dVar 2) lNil)) (dC (.int 2147483029))) (dC (.int 611)))) (dC (.int 53))) lNil)) (dC (.int 2147483477))) 4)))) hNext)
    (hSeq (hIf (cCmp gtD (dOp ixD (dVar 0) (dC (.int 2))) (dC (.int 0))) (hSeq (hSet 2 (dOp modD (dFn intF (lCons (dOp ixD (dVar 0) (dC (.int 2))) lNil)) (dVar 1)))
    (hSeq (hStore (dOp fdivD (dOp ixD (dVar 0) (dC (.int 2))) (dVar 1)) 2)
    (hRet (dVar 3)))) hNext)
    (hSeq (hSet 3 (dOp ixD (dVar 0) (dC (.int 4))))
    (hSeq (hSet 3 (dOp addD (dOp addD (dOp addD (dOp mulD (dVar 4) (dVar 4)) (dOp mulD (dVar 4) (dC (.int 20011)))) (dOp mulD (dOp ixD (dVar 0) (dC (.int 3))) (dC (.int 1299721)))) (dC (.int 40009))))
    (hSeq (hStore (dOp modD (dFn intF (lCons (dVar 4) lNil)) (dC (.int 2147483477))) 4)
    (hRet (dOp modD (dFn intF (lCons (dOp addD (dOp fdivD (dOp ixD (dVar 0) (dC (.int 4))) (dC (.int 97))) (dOp mulD (dOp modD (dFn intF (lCons (dOp ixD (dVar 0) (dC (.int 4))) lNil)) (dC (.int 6007))) (dC (.int 71)))) lNil)) (dVar 1)))))))))
theorem draw_runs : ∀ (i : Int) (s s' : FS) (k : Int), s.Ok → drawM i s = .ok k s' → s'.Ok ∧ s'.cells = s.cells ∧ ∃ ρ', h_law_draw ⟨feedL s, some i :: List.replicate 3 none⟩ = some (some k, ⟨feedL s', ρ'⟩) := hDraw_runs
def g_law_draw : List D → M D := feedFn drawM
theorem cal_law_draw {P : Program} {w : World} {K : PySem.W.Frag} {mg : Str → Option Value} {base : Heap} (T : Txt mg) (D0 : Dff K mg "_law_draw" ["_law_feed_here", "_law_upto"] s_law_draw) : Cal P w K mg base 1 "_law_draw" ["_law_feed_here", "_law_upto"] g_law_draw :=
  cal_of D0 fun f fd F => fn_feed (k := 0) F sc_law_draw rfl 3 rfl draw_runs fun cdv A outer s H E hr => by
    have hu65 : (A.deeper (envOfC "_law_draw" (defScope s_law_draw) s.heap.objs.size f cdv)).units + 65 < cLine := by
      have := hr.un
      omega
    have hu64 : (A.deeper (envOfC "_law_draw" (defScope s_law_draw) s.heap.objs.size f cdv)).units + 64 < cLine := by omega
    have hu1 : (A.deeper (envOfC "_law_draw" (defScope s_law_draw) s.heap.objs.size f cdv)).units + 1 < cLine := by omega
    exact (sis_cons (si_store (ed_op opr_add ok_add (ed_ix hu1 (ed_var 0) ed_int) ed_int) (pv 0))
    (sis_cons (si_if (TWD.td (twd_and (td_cmp (opr_eq hu64) ok_eq (ed_ix hu1 (ed_var 0) ed_int) ed_int) (twd_and1 (td_cmp op_lt ok_lt (ed_ix hu1 (ed_var 0) ed_int) (ed_callB crl_len ok_len T.len_ (ld_cons (ed_ix hu1 (ed_var 0) ed_int) ld_nil)))))) (sis_cons (si_set (i := 1) nd_law_draw (ed_ix hu1 (ed_ix hu1 (ed_var 0) ed_int) (ed_ix hu1 (ed_var 0) ed_int)))
    (sis_cons (si_store (ed_op opr_add ok_add (ed_ix hu1 (ed_var 0) ed_int) ed_int) (pv 0))
    (sis_one (si_if (td_cmp op_ge ok_ge (ed_var 2) (ed_op op_pow ok_pow ed_int ed_int)) (sis_one (si_store (ed_var 2) (pv 0))) (sis_one (si_store (ed_op op_mod ok_mod (ed_callTy call_int1 ok_int T.int_ (ld_cons (ed_op opr_add ok_add (ed_op opr_add ok_add (ed_op opr_mul ok_mul (ed_ix hu1 (ed_var 0) ed_int) ed_int) (ed_op opr_mul ok_mul (ed_op op_mod ok_mod (ed_callTy call_int1 ok_int T.int_ (ld_cons (ed_var 2) ld_nil)) ed_int) ed_int)) ed_int) ld_nil)) ed_int) (pv 0))))))) sis_nil)
    (sis_cons (si_if (td_cmp op_gt ok_gt (ed_ix hu1 (ed_var 0) ed_int) ed_int) (sis_cons (si_set (i := 2) nd_law_draw (ed_op op_mod ok_mod (ed_callTy call_int1 ok_int T.int_ (ld_cons (ed_ix hu1 (ed_var 0) ed_int) ld_nil)) (ed_var 1)))
    (sis_cons (si_store (ed_op op_fdiv ok_fdiv (ed_ix hu1 (ed_var 0) ed_int) (ed_var 1)) (pv 0))
    (sis_one (si_ret (ed_var 3))))) sis_nil)
    (sis_cons (si_set (i := 3) nd_law_draw (ed_ix hu1 (ed_var 0) ed_int))
    (sis_cons (si_set (i := 3) nd_law_draw (ed_op opr_add ok_add (ed_op opr_add ok_add (ed_op opr_add ok_add (ed_op opr_mul ok_mul (ed_var 4) (ed_var 4)) (ed_op opr_mul ok_mul (ed_var 4) ed_int)) (ed_op opr_mul ok_mul (ed_ix hu1 (ed_var 0) ed_int) ed_int)) ed_int))
    (sis_cons (si_store (ed_op op_mod ok_mod (ed_callTy call_int1 ok_int T.int_ (ld_cons (ed_var 4) ld_nil)) ed_int) (pv 0))
    (sis_one (si_ret (ed_op op_mod ok_mod (ed_callTy call_int1 ok_int T.int_ (ld_cons (ed_op opr_add ok_add (ed_op op_fdiv ok_fdiv (ed_ix hu1 (ed_var 0) ed_int) ed_int) (ed_op opr_mul ok_mul (ed_op op_mod ok_mod (ed_callTy call_int1 ok_int T.int_ (ld_cons (ed_ix hu1 (ed_var 0) ed_int) ld_nil)) ed_int) ed_int)) ld_nil)) (ed_var 1))))))))))
abbrev s_law_of : Stmt := topS 9
abbrev n_law_of : List Str := ["_law_feed_here", "_law_items"]
theorem sc_law_of : FnScope n_law_of ["_law_feed_here", "_law_items"] (defScope s_law_of) := ⟨rfl, rfl, rfl, by decide +kernel, rfl, by decide +kernel, by decide +kernel⟩
theorem nd_law_of : List.Nodup n_law_of := sc_law_of.nd
def b_law_of : Sts → M (Fl × Sts) :=
  (gRet (dOp ixD (dVar 1) (dCall g_law_draw (lCons (dVar 0) (lCons (dFn lenD (lCons (dVar 1) lNil)) lNil)))))
def g_law_of : List D → M D := runD 2 2 b_law_of
theorem fo_law_of {P : Program} {w : World} {K : PySem.W.Frag} {mg : Str → Option Value} {base : Heap} (T : Txt mg) (C_law_draw : Cal P w K mg base 1 "_law_draw" ["_law_feed_here", "_law_upto"] g_law_draw) (f : Addr) (fd : FuncData) (F : Fun K "_law_of" "_law_of" s_law_of f fd) : FnOk P w K mg base (L2.CX P w) 2 f fd ["_law_feed_here", "_law_items"] (DSp K mg g_law_of) :=
  fn_d (k := 1) F sc_law_of (by decide) fun cdv A outer s H E fa hr => by
    have hu65 : (A.deeper (envOfC "_law_of" (defScope s_law_of) s.heap.objs.size f cdv)).units + 65 < cLine := by
      have := hr.un
      omega
    have hu64 : (A.deeper (envOfC "_law_of" (defScope s_law_of) s.heap.objs.size f cdv)).units + 64 < cLine := by omega
    have hu1 : (A.deeper (envOfC "_law_of" (defScope s_law_of) s.heap.objs.size f cdv)).units + 1 < cLine := by omega
    exact (ssj_one (sj_ret (ed_ix hu1 (ed_var 1) (ed_cal C_law_draw (hr.mono (by decide)) pass_def (ld_cons (ed_var 0) (ld_cons (ed_callB crl_len ok_len T.len_ (ld_cons (ed_var 1) ld_nil)) ld_nil))))))
theorem cal_law_of {P : Program} {w : World} {K : PySem.W.Frag} {mg : Str → Option Value} {base : Heap} (T : Txt mg) (D0 : Dff K mg "_law_of" ["_law_feed_here", "_law_items"] s_law_of) (C_law_draw : Cal P w K mg base 1 "_law_draw" ["_law_feed_here", "_law_upto"] g_law_draw) : Cal P w K mg base 2 "_law_of" ["_law_feed_here", "_law_items"] g_law_of := cal_of D0 (fo_law_of T C_law_draw)
theorem kal_law_of {P : Program} {w : World} {K : PySem.W.Frag} {mg : Str → Option Value} {base : Heap} (T : Txt mg) (D0 : Kff K mg "_law_of" ["_law_feed_here", "_law_items"] 0 ["_law_feed_here", "_law_items"] s_law_of) (C_law_draw : Cal P w K mg base 1 "_law_draw" ["_law_feed_here", "_law_upto"] g_law_draw) : Kal P w K mg base 2 "_law_of" ["_law_feed_here", "_law_items"] 0 ["_law_feed_here", "_law_items"] g_law_of := kal_of D0 (fo_law_of T C_law_draw)
abbrev s_law_same : Stmt := topS 10
abbrev n_law_same : List Str := ["_law_found", "_law_due", "_law_key", "_law_k"]
theorem sc_law_same : FnScope n_law_same ["_law_found", "_law_due"] (defScope s_law_same) := ⟨rfl, rfl, rfl, by decide +kernel, rfl, by decide +kernel, by decide +kernel⟩
theorem nd_law_same : List.Nodup n_law_same := sc_law_same.nd
def b_law_same (rec : List D → M D) : Sts → M (Fl × Sts) :=
  (gSeq (gIf (cTru (dFn isiD (lCons (dVar 1) (lCons (dC (.opq (.ty "dict"))) lNil)))) (gSeq (gIf (cOr (cNot (cTru (dFn isiD (lCons (dVar 0) (lCons (dC (.opq (.ty "dict"))) lNil))))) (cCmp neD (dFn lenD (lCons (dVar 0) lNil)) (dFn lenD (lCons (dVar 1) lNil)))) (gRet (dC (.bl false))) gNext)
    (gRet (dFn allD (lCons (dNew (dLc (keysD 1) (bName 2) cYes (dAnd (dOp inD (dVar 2) (dVar 0)) (dCall rec (lCons (dOp ixD (dVar 0) (dVar 2)) (lCons (dOp ixD (dVar 1) (dVar 2)) lNil)))))) lNil)))) gNext)
    (gSeq (gIf (cTru (dIsi ["list", "tuple"] (dVar 1))) (gSeq (gIf (cOr (cCmp neD (dFn isiD (lCons (dVar 0) (lCons (dC (.opq (.ty "list"))) lNil))) (dFn isiD (lCons (dVar 1) (lCons (dC (.opq (.ty "list"))) lNil)))) (cNot (cTru (dIsi ["list", "tuple"] (dVar 0))))) (gRet (dC (.bl false))) gNext)
    (gRet (dAnd (dOp eqD (dFn lenD (lCons (dVar 0) lNil)) (dFn lenD (lCons (dVar 1) lNil))) (dFn allD (lCons (dNew (dLc (iFn rng1 (lCons (dFn lenD (lCons (dVar 1) lNil)) lNil)) (bName 3) cYes (dCall rec (lCons (dOp ixD (dVar 0) (dVar 3)) (lCons (dOp ixD (dVar 1) (dVar 3)) lNil))))) lNil))))) gNext)
    (gRet (dAnd (dOp eqD (dVar 0) (dVar 1)) (dOp eqD (dFn reprD (lCons (dVar 0) lNil)) (dFn reprD (lCons (dVar 1) lNil)))))))
def g_same : Nat → List D → M D
  | 0 => fun _ => M.bad
  | n + 1 => runD 4 2 (b_law_same (g_same n))
theorem cal_same {P : Program} {w : World} {K : PySem.W.Frag} {mg : Str → Option Value} {base : Heap} (T : Txt mg) (D0 : Dff K mg "_law_same" ["_law_found", "_law_due"] s_law_same) : ∀ n : Nat, Cal P w K mg base (n + 1) "_law_same" ["_law_found", "_law_due"] (g_same n)
  | 0 => cal_bad D0 1
  | n + 1 => cal_of D0 fun f fd F => fn_d (k := n + 1) F sc_law_same (by decide) fun cdv A outer s H E fa hr => by
    have C_rec := cal_same (w := w) (P := P) (base := base) T D0 n
    have hu65 : (A.deeper (envOfC "_law_same" (defScope s_law_same) s.heap.objs.size f cdv)).units + 65 < cLine := by
      have := hr.un
      omega
    have hu64 : (A.deeper (envOfC "_law_same" (defScope s_law_same) s.heap.objs.size f cdv)).units + 64 < cLine := by omega
    have hu1 : (A.deeper (envOfC "_law_same" (defScope s_law_same) s.heap.objs.size f cdv)).units + 1 < cLine := by omega
    exact (ssj_cons (sj_if (td_tru (ed_callB call_isi ok_isi T.isinstance_ (ld_cons (ed_var 1) (ld_cons (ed_ty "dict" T.dict_) ld_nil)))) (ssj_cons (sj_if (TWD.td (twd_or (td_not (td_tru (ed_callB call_isi ok_isi T.isinstance_ (ld_cons (ed_var 0) (ld_cons (ed_ty "dict" T.dict_) ld_nil))))) (twd_or1 (td_cmp (opr_ne hu64) ok_ne (ed_callB crl_len ok_len T.len_ (ld_cons (ed_var 0) ld_nil)) (ed_callB crl_len ok_len T.len_ (ld_cons (ed_var 1) ld_nil)))))) (ssj_one (sj_ret ed_bl)) ssj_nil)
    (ssj_one (sj_ret (ed_callB (cr_all rfl) ok_all T.all_ (ld_cons (ND.ed (nd_lcKeys rfl nd_law_same (pv 1) (blkOk_by (own := [("_law_key", 2)]) (N := n_law_same) (sc := defScope s_law_same) (by decide +kernel)) (by decide) (by decide) (fun _ _ _ _ _ => (tj_name (i := 2) nd_law_same)) (fun _ _ _ _ _ => ptd_nil) (fun _ _ _ _ _ => (ed_and (ed_cmp (opr_in hu65) ok_in (ed_var 2) (ed_var 0)) (ed_one (ed_cal C_rec (hr.mono (by omega)) pass_blk (ld_cons (ed_ix hu1 (ed_var 0) (ed_var 2)) (ld_cons (ed_ix hu1 (ed_var 1) (ed_var 2)) ld_nil)))))))) ld_nil))))) ssj_nil)
    (ssj_cons (sj_if (td_tru (ed_isi2 (ed_var 1) T.isinstance_ T.list_ T.tuple_)) (ssj_cons (sj_if (TWD.td (twd_or (td_cmp (opr_ne hu64) ok_ne (ed_callB call_isi ok_isi T.isinstance_ (ld_cons (ed_var 0) (ld_cons (ed_ty "list" T.list_) ld_nil))) (ed_callB call_isi ok_isi T.isinstance_ (ld_cons (ed_var 1) (ld_cons (ed_ty "list" T.list_) ld_nil)))) (twd_or1 (td_not (td_tru (ed_isi2 (ed_var 0) T.isinstance_ T.list_ T.tuple_)))))) (ssj_one (sj_ret ed_bl)) ssj_nil)
    (ssj_one (sj_ret (ed_and (ed_cmp (opr_eq hu64) ok_eq (ed_callB crl_len ok_len T.len_ (ld_cons (ed_var 0) ld_nil)) (ed_callB crl_len ok_len T.len_ (ld_cons (ed_var 1) ld_nil))) (ed_one (ed_callB (cr_all rfl) ok_all T.all_ (ld_cons (ND.ed (nd_lc rfl nd_law_same (ij_range1 T.range_ (ld_cons (ed_callB crl_len ok_len T.len_ (ld_cons (ed_var 1) ld_nil)) ld_nil)) (blkOk_by (own := [("_law_k", 3)]) (N := n_law_same) (sc := defScope s_law_same) (by decide +kernel)) (by decide) (by decide) (fun _ _ _ _ _ => (tj_name (i := 3) nd_law_same)) (fun _ _ _ _ _ => ptd_nil) (fun _ _ _ _ _ => (ed_cal C_rec (hr.mono (by omega)) pass_blk (ld_cons (ed_ix hu1 (ed_var 0) (ed_var 3)) (ld_cons (ed_ix hu1 (ed_var 1) (ed_var 3)) ld_nil)))))) ld_nil))))))) ssj_nil)
    (ssj_one (sj_ret (ed_and (ed_cmp (opr_eq hu64) ok_eq (ed_var 0) (ed_var 1)) (ed_one (ed_cmp (opr_eq hu64) ok_eq (ed_callB cr_repr ok_repr T.repr_ (ld_cons (ed_var 0) ld_nil)) (ed_callB cr_repr ok_repr T.repr_ (ld_cons (ed_var 1) ld_nil)))))))))
def g_law_same : List D → M D := g_same 8
theorem cal_law_same {P : Program} {w : World} {K : PySem.W.Frag} {mg : Str → Option Value} {base : Heap} (T : Txt mg) (D0 : Dff K mg "_law_same" ["_law_found", "_law_due"] s_law_same) : Cal P w K mg base 9 "_law_same" ["_law_found", "_law_due"] g_law_same := cal_same T D0 8
abbrev s_law_signs : Stmt := topS 11
abbrev n_law_signs : List Str := []
theorem sc_law_signs : FnScope n_law_signs [] (defScope s_law_signs) := ⟨rfl, rfl, rfl, by decide +kernel, rfl, by decide +kernel, by decide +kernel⟩
theorem nd_law_signs : List.Nodup n_law_signs := sc_law_signs.nd
def m_law_signs : M (List D) := M.quiet ((fun ρ => ((lCons (dC (.str "abcdefghijklmnopqrstuvwxyz")) lNil) ρ).bind fun xs => M.lift (listNA xs)) [])
theorem cal_law_signs {P : Program} {w : World} {K : PySem.W.Frag} {mg : Str → Option Value} {base : Heap} (T : Txt mg) (D0 : Dff K mg "_law_signs" [] s_law_signs) : CalN P w K mg base 1 "_law_signs" m_law_signs :=
  caln_of D0 fun f fd F => fn_new (k := 0) F sc_law_signs rfl fun cdv A outer s H E fa hr => (nd_listA T.list_ rfl (ld_cons ed_str ld_nil))
abbrev s_law_some_letters : Stmt := topS 12
abbrev n_law_some_letters : List Str := ["_law_feed_here", "_law_upto", "_law_pool", "_law_found", "_law_k"]
theorem sc_law_some_letters : FnScope n_law_some_letters ["_law_feed_here", "_law_upto"] (defScope s_law_some_letters) := ⟨rfl, rfl, rfl, by decide +kernel, rfl, by decide +kernel, by decide +kernel⟩
theorem nd_law_some_letters : List.Nodup n_law_some_letters := sc_law_some_letters.nd
def b_law_some_letters : Sts → M (Fl × Sts) :=
  (gSeq (gPar 2 3 (vNew (fun _ => M.quiet m_law_signs)) (vNew (fun ρ => (lNil ρ).bind fun xs => M.lift (mkN xs))))
    (gSeq (gFor (iFn rng1 (lCons (dVar 1) lNil)) (bName 4) (gDrop (vMt 3 moAppend (lvCons (vMt 2 moPopAt (lvCons (vView (dCall g_law_draw (lCons (dVar 0) (lCons (dFn lenD (lCons (dVar 2) lNil)) lNil)))) lvNil)) lvNil))))
    (gFrz 2 (gFrz 3 (gRet (dFn sortedD (lCons (dVar 3) lNil)))))))
def g_law_some_letters : List D → M D := runD 5 2 b_law_some_letters
theorem fo_law_some_letters {P : Program} {w : World} {K : PySem.W.Frag} {mg : Str → Option Value} {base : Heap} (T : Txt mg) (C_law_signs : CalN P w K mg base 1 "_law_signs" m_law_signs) (C_law_draw : Cal P w K mg base 1 "_law_draw" ["_law_feed_here", "_law_upto"] g_law_draw) (f : Addr) (fd : FuncData) (F : Fun K "_law_some_letters" "_law_some_letters" s_law_some_letters f fd) : FnOk P w K mg base (L2.CX P w) 2 f fd ["_law_feed_here", "_law_upto"] (DSp K mg g_law_some_letters) :=
  fn_d (k := 1) F sc_law_some_letters (by decide) fun cdv A outer s H E fa hr => by
    have hu65 : (A.deeper (envOfC "_law_some_letters" (defScope s_law_some_letters) s.heap.objs.size f cdv)).units + 65 < cLine := by
      have := hr.un
      omega
    have hu64 : (A.deeper (envOfC "_law_some_letters" (defScope s_law_some_letters) s.heap.objs.size f cdv)).units + 64 < cLine := by omega
    have hu1 : (A.deeper (envOfC "_law_some_letters" (defScope s_law_some_letters) s.heap.objs.size f cdv)).units + 1 < cLine := by omega
    exact (ssj_cons (sj_par (i := 2) (j := 3) rfl nd_law_some_letters (vj_new (nd_cal0 C_law_signs (hr.mono (by decide)))) (vj_new (nd_lst ld_nil)))
    (ssj_cons (sj_for (passes_of rfl) rfl (ij_range1 T.range_ (ld_cons (ed_var 1) ld_nil)) (tj_name (i := 4) nd_law_some_letters) (ssj_one (sj_expr (vj_mt (i := 3) PySem.F.slot_list_append PySem.F.type_list_append mt_append ok_append (lvj_cons (vj_mt (i := 2) PySem.F.slot_list_pop PySem.F.type_list_pop mt_popAt ok_popAt (lvj_cons (vj_view (ed_cal C_law_draw (hr.mono (by decide)) pass_def (ld_cons (ed_var 0) (ld_cons (ed_callB crl_len ok_len T.len_ (ld_cons (ed_var 2) ld_nil)) ld_nil)))) lvj_nil) (pv 2)) lvj_nil) (pv 3)))))
    (ssj_frz 2 (ssj_frz 3 (ssj_one (sj_ret (ed_callB cr_sortA ok_sorted T.sorted_ (ld_cons (ed_var 3) ld_nil))))))))
theorem cal_law_some_letters {P : Program} {w : World} {K : PySem.W.Frag} {mg : Str → Option Value} {base : Heap} (T : Txt mg) (D0 : Dff K mg "_law_some_letters" ["_law_feed_here", "_law_upto"] s_law_some_letters) (C_law_signs : CalN P w K mg base 1 "_law_signs" m_law_signs) (C_law_draw : Cal P w K mg base 1 "_law_draw" ["_law_feed_here", "_law_upto"] g_law_draw) : Cal P w K mg base 2 "_law_some_letters" ["_law_feed_here", "_law_upto"] g_law_some_letters := cal_of D0 (fo_law_some_letters T C_law_signs C_law_draw)
theorem kal_law_some_letters {P : Program} {w : World} {K : PySem.W.Frag} {mg : Str → Option Value} {base : Heap} (T : Txt mg) (D0 : Kff K mg "_law_some_letters" ["_law_feed_here", "_law_upto"] 0 ["_law_feed_here", "_law_upto"] s_law_some_letters) (C_law_signs : CalN P w K mg base 1 "_law_signs" m_law_signs) (C_law_draw : Cal P w K mg base 1 "_law_draw" ["_law_feed_here", "_law_upto"] g_law_draw) : Kal P w K mg base 2 "_law_some_letters" ["_law_feed_here", "_law_upto"] 0 ["_law_feed_here", "_law_upto"] g_law_some_letters := kal_of D0 (fo_law_some_letters T C_law_signs C_law_draw)
abbrev s_law_number_side : Stmt := topS 13
abbrev n_law_number_side : List Str := ["_law_feed_here"]
theorem sc_law_number_side : FnScope n_law_number_side ["_law_feed_here"] (defScope s_law_number_side) := ⟨rfl, rfl, rfl, by decide +kernel, rfl, by decide +kernel, by decide +kernel⟩
theorem nd_law_number_side : List.Nodup n_law_number_side := sc_law_number_side.nd
def b_law_number_side : Sts → M (Fl × Sts) :=
  (gRet (dCall g_law_of (lCons (dVar 0) (lCons (dFn mkLst (lCons (dC (.int 1)) (lCons (dC (.int 1)) (lCons (dC (.int 1)) (lCons (dC (.int 1)) (lCons (dC (.int 1)) (lCons (dC (.int 2)) (lCons (dC (.int 3)) lNil)))))))) lNil))))
def g_law_number_side : List D → M D := runD 1 1 b_law_number_side
theorem fo_law_number_side {P : Program} {w : World} {K : PySem.W.Frag} {mg : Str → Option Value} {base : Heap} (T : Txt mg) (C_law_of : Cal P w K mg base 2 "_law_of" ["_law_feed_here", "_law_items"] g_law_of) (f : Addr) (fd : FuncData) (F : Fun K "_law_number_side" "_law_number_side" s_law_number_side f fd) : FnOk P w K mg base (L2.CX P w) 3 f fd ["_law_feed_here"] (DSp K mg g_law_number_side) :=
  fn_d (k := 2) F sc_law_number_side (by decide) fun cdv A outer s H E fa hr => by
    have hu65 : (A.deeper (envOfC "_law_number_side" (defScope s_law_number_side) s.heap.objs.size f cdv)).units + 65 < cLine := by
      have := hr.un
      omega
    have hu64 : (A.deeper (envOfC "_law_number_side" (defScope s_law_number_side) s.heap.objs.size f cdv)).units + 64 < cLine := by omega
    have hu1 : (A.deeper (envOfC "_law_number_side" (defScope s_law_number_side) s.heap.objs.size f cdv)).units + 1 < cLine := by omega
    exact (ssj_one (sj_ret (ed_cal C_law_of (hr.mono (by decide)) pass_def (ld_cons (ed_var 0) (ld_cons (ed_lst (ld_cons ed_int (ld_cons ed_int (ld_cons ed_int (ld_cons ed_int (ld_cons ed_int (ld_cons ed_int (ld_cons ed_int ld_nil)))))))) ld_nil)))))
theorem cal_law_number_side {P : Program} {w : World} {K : PySem.W.Frag} {mg : Str → Option Value} {base : Heap} (T : Txt mg) (D0 : Dff K mg "_law_number_side" ["_law_feed_here"] s_law_number_side) (C_law_of : Cal P w K mg base 2 "_law_of" ["_law_feed_here", "_law_items"] g_law_of) : Cal P w K mg base 3 "_law_number_side" ["_law_feed_here"] g_law_number_side := cal_of D0 (fo_law_number_side T C_law_of)
theorem kal_law_number_side {P : Program} {w : World} {K : PySem.W.Frag} {mg : Str → Option Value} {base : Heap} (T : Txt mg) (D0 : Kff K mg "_law_number_side" ["_law_feed_here"] 0 ["_law_feed_here"] s_law_number_side) (C_law_of : Cal P w K mg base 2 "_law_of" ["_law_feed_here", "_law_items"] g_law_of) : Kal P w K mg base 3 "_law_number_side" ["_law_feed_here"] 0 ["_law_feed_here"] g_law_number_side := kal_of D0 (fo_law_number_side T C_law_of)
abbrev s_law_sides : Stmt := topS 14
abbrev n_law_sides : List Str := ["_law_feed_here", "_law_letters", "_law_rank", "_law_found", "_law_k"]
theorem sc_law_sides : FnScope n_law_sides ["_law_feed_here", "_law_letters", "_law_rank"] (defScope s_law_sides) := ⟨rfl, rfl, rfl, by decide +kernel, rfl, by decide +kernel, by decide +kernel⟩
theorem nd_law_sides : List.Nodup n_law_sides := sc_law_sides.nd
def b_law_sides : Sts → M (Fl × Sts) :=
  (gSeq (gSet 3 (vNew (fun ρ => (lNil ρ).bind fun xs => M.lift (mkN xs))))
    (gSeq (gFor (iFn rng1 (lCons (dCall g_law_draw (lCons (dVar 0) (lCons (dOp addD (dVar 2) (dC (.int 1))) lNil))) lNil)) (bName 4) (gIf (cAnd (cCmp neD (dVar 1) (dFn mkLst lNil)) (cCmp gtD (dCall g_law_draw (lCons (dVar 0) (lCons (dC (.int 4)) lNil))) (dC (.int 0)))) (gDrop (vMt 3 moAppend (lvCons (vMask (dCall g_law_of (lCons (dVar 0) (lCons (dVar 1) lNil)))) lvNil))) (gDrop (vMt 3 moAppend (lvCons (vMask (dCall g_law_number_side (lCons (dVar 0) lNil))) lvNil)))))
    (gFrz 3 (gRet (dFn tupleD (lCons (dVar 3) lNil))))))
def g_law_sides : List D → M D := runD 5 3 b_law_sides
theorem fo_law_sides {P : Program} {w : World} {K : PySem.W.Frag} {mg : Str → Option Value} {base : Heap} (T : Txt mg) (C_law_draw : Cal P w K mg base 1 "_law_draw" ["_law_feed_here", "_law_upto"] g_law_draw) (C_law_of : Cal P w K mg base 2 "_law_of" ["_law_feed_here", "_law_items"] g_law_of) (C_law_number_side : Cal P w K mg base 3 "_law_number_side" ["_law_feed_here"] g_law_number_side) (f : Addr) (fd : FuncData) (F : Fun K "_law_sides" "_law_sides" s_law_sides f fd) : FnOk P w K mg base (L2.CX P w) 4 f fd ["_law_feed_here", "_law_letters", "_law_rank"] (DSp K mg g_law_sides) :=
  fn_d (k := 3) F sc_law_sides (by decide) fun cdv A outer s H E fa hr => by
    have hu65 : (A.deeper (envOfC "_law_sides" (defScope s_law_sides) s.heap.objs.size f cdv)).units + 65 < cLine := by
      have := hr.un
      omega
    have hu64 : (A.deeper (envOfC "_law_sides" (defScope s_law_sides) s.heap.objs.size f cdv)).units + 64 < cLine := by omega
    have hu1 : (A.deeper (envOfC "_law_sides" (defScope s_law_sides) s.heap.objs.size f cdv)).units + 1 < cLine := by omega
    exact (ssj_cons (sj_set (i := 3) nd_law_sides (vj_new (nd_lst ld_nil)))
    (ssj_cons (sj_for (passes_of rfl) rfl (ij_range1 T.range_ (ld_cons (ed_cal C_law_draw (hr.mono (by decide)) pass_def (ld_cons (ed_var 0) (ld_cons (ed_op opr_add ok_add (ed_var 2) ed_int) ld_nil))) ld_nil)) (tj_name (i := 4) nd_law_sides) (ssj_one (sj_if (TWD.td (twd_and (td_cmp (opr_ne hu64) ok_ne (ed_var 1) (ed_lst ld_nil)) (twd_and1 (td_cmp op_gt ok_gt (ed_cal C_law_draw (hr.mono (by decide)) pass_def (ld_cons (ed_var 0) (ld_cons ed_int ld_nil))) ed_int)))) (ssj_one (sj_expr (vj_mt (i := 3) PySem.F.slot_list_append PySem.F.type_list_append mt_append ok_append (lvj_cons (vj_mask (ed_cal C_law_of (hr.mono (by decide)) pass_def (ld_cons (ed_var 0) (ld_cons (ed_var 1) ld_nil)))) lvj_nil) (pv 3)))) (ssj_one (sj_expr (vj_mt (i := 3) PySem.F.slot_list_append PySem.F.type_list_append mt_append ok_append (lvj_cons (vj_mask (ed_cal C_law_number_side (hr.mono (by decide)) pass_def (ld_cons (ed_var 0) ld_nil))) lvj_nil) (pv 3)))))))
    (ssj_frz 3 (ssj_one (sj_ret (ed_callTy call_tuple_of ok_tuple T.tuple_ (ld_cons (ed_var 3) ld_nil)))))))
theorem cal_law_sides {P : Program} {w : World} {K : PySem.W.Frag} {mg : Str → Option Value} {base : Heap} (T : Txt mg) (D0 : Dff K mg "_law_sides" ["_law_feed_here", "_law_letters", "_law_rank"] s_law_sides) (C_law_draw : Cal P w K mg base 1 "_law_draw" ["_law_feed_here", "_law_upto"] g_law_draw) (C_law_of : Cal P w K mg base 2 "_law_of" ["_law_feed_here", "_law_items"] g_law_of) (C_law_number_side : Cal P w K mg base 3 "_law_number_side" ["_law_feed_here"] g_law_number_side) : Cal P w K mg base 4 "_law_sides" ["_law_feed_here", "_law_letters", "_law_rank"] g_law_sides := cal_of D0 (fo_law_sides T C_law_draw C_law_of C_law_number_side)
theorem kal_law_sides {P : Program} {w : World} {K : PySem.W.Frag} {mg : Str → Option Value} {base : Heap} (T : Txt mg) (D0 : Kff K mg "_law_sides" ["_law_feed_here", "_law_letters", "_law_rank"] 0 ["_law_feed_here", "_law_letters", "_law_rank"] s_law_sides) (C_law_draw : Cal P w K mg base 1 "_law_draw" ["_law_feed_here", "_law_upto"] g_law_draw) (C_law_of : Cal P w K mg base 2 "_law_of" ["_law_feed_here", "_law_items"] g_law_of) (C_law_number_side : Cal P w K mg base 3 "_law_number_side" ["_law_feed_here"] g_law_number_side) : Kal P w K mg base 4 "_law_sides" ["_law_feed_here", "_law_letters", "_law_rank"] 0 ["_law_feed_here", "_law_letters", "_law_rank"] g_law_sides := kal_of D0 (fo_law_sides T C_law_draw C_law_of C_law_number_side)
abbrev s_law_size : Stmt := topS 15
abbrev n_law_size : List Str := ["_law_side", "_law_table_here"]
theorem sc_law_size : FnScope n_law_size ["_law_side", "_law_table_here"] (defScope s_law_size) := ⟨rfl, rfl, rfl, by decide +kernel, rfl, by decide +kernel, by decide +kernel⟩
theorem nd_law_size : List.Nodup n_law_size := sc_law_size.nd
def b_law_size : Sts → M (Fl × Sts) :=
  (gRet (dIf (cTru (dFn isiD (lCons (dVar 0) (lCons (dC (.opq (.ty "str"))) lNil)))) (dOp ixD (dVar 1) (dVar 0)) (dVar 0)))
def g_law_size : List D → M D := runD 2 2 b_law_size
theorem fo_law_size {P : Program} {w : World} {K : PySem.W.Frag} {mg : Str → Option Value} {base : Heap} (T : Txt mg) (f : Addr) (fd : FuncData) (F : Fun K "_law_size" "_law_size" s_law_size f fd) : FnOk P w K mg base (L2.CX P w) 1 f fd ["_law_side", "_law_table_here"] (DSp K mg g_law_size) :=
  fn_d (k := 0) F sc_law_size (by decide) fun cdv A outer s H E fa hr => by
    have hu65 : (A.deeper (envOfC "_law_size" (defScope s_law_size) s.heap.objs.size f cdv)).units + 65 < cLine := by
      have := hr.un
      omega
    have hu64 : (A.deeper (envOfC "_law_size" (defScope s_law_size) s.heap.objs.size f cdv)).units + 64 < cLine := by omega
    have hu1 : (A.deeper (envOfC "_law_size" (defScope s_law_size) s.heap.objs.size f cdv)).units + 1 < cLine := by omega
    exact (ssj_one (sj_ret (ed_if (td_tru (ed_callB call_isi ok_isi T.isinstance_ (ld_cons (ed_var 0) (ld_cons (ed_ty "str" T.str_) ld_nil)))) (ed_ix hu1 (ed_var 1) (ed_var 0)) (ed_var 0))))
theorem cal_law_size {P : Program} {w : World} {K : PySem.W.Frag} {mg : Str → Option Value} {base : Heap} (T : Txt mg) (D0 : Dff K mg "_law_size" ["_law_side", "_law_table_here"] s_law_size) : Cal P w K mg base 1 "_law_size" ["_law_side", "_law_table_here"] g_law_size := cal_of D0 (fo_law_size T)
theorem kal_law_size {P : Program} {w : World} {K : PySem.W.Frag} {mg : Str → Option Value} {base : Heap} (T : Txt mg) (D0 : Kff K mg "_law_size" ["_law_side", "_law_table_here"] 0 ["_law_side", "_law_table_here"] s_law_size) : Kal P w K mg base 1 "_law_size" ["_law_side", "_law_table_here"] 0 ["_law_side", "_law_table_here"] g_law_size := kal_of D0 (fo_law_size T)
abbrev s_law_table : Stmt := topS 16
abbrev n_law_table : List Str := ["_law_feed_here", "_law_letters", "_law_top", "_law_first", "_law_found", "_law_letter"]
theorem sc_law_table : FnScope n_law_table ["_law_feed_here", "_law_letters", "_law_top"] (defScope s_law_table) := ⟨rfl, rfl, rfl, by decide +kernel, rfl, by decide +kernel, by decide +kernel⟩
theorem nd_law_table : List.Nodup n_law_table := sc_law_table.nd
def b_law_table : Sts → M (Fl × Sts) :=
  (gSeq (gPar 3 4 (vMask (dOp addD (dC (.int 1)) (dCall g_law_draw (lCons (dVar 0) (lCons (dVar 2) lNil))))) vNewD)
    (gSeq (gFor (iAny (dVar 1)) (bName 5) (gStD 4 (vMask (dCall g_law_of (lCons (dVar 0) (lCons (dFn mkLst (lCons (dC (.int 1)) (lCons (dVar 3) (lCons (dVar 3) (lCons (dOp addD (dC (.int 1)) (dCall g_law_draw (lCons (dVar 0) (lCons (dVar 2) lNil)))) lNil))))) lNil)))) (vMask (dVar 5))))
    (gFrz 4 (gRet (dVar 4)))))
def g_law_table : List D → M D := runD 6 3 b_law_table
theorem fo_law_table {P : Program} {w : World} {K : PySem.W.Frag} {mg : Str → Option Value} {base : Heap} (T : Txt mg) (C_law_draw : Cal P w K mg base 1 "_law_draw" ["_law_feed_here", "_law_upto"] g_law_draw) (C_law_of : Cal P w K mg base 2 "_law_of" ["_law_feed_here", "_law_items"] g_law_of) (f : Addr) (fd : FuncData) (F : Fun K "_law_table" "_law_table" s_law_table f fd) : FnOk P w K mg base (L2.CX P w) 3 f fd ["_law_feed_here", "_law_letters", "_law_top"] (DSp K mg g_law_table) :=
  fn_d (k := 2) F sc_law_table (by decide) fun cdv A outer s H E fa hr => by
    have hu65 : (A.deeper (envOfC "_law_table" (defScope s_law_table) s.heap.objs.size f cdv)).units + 65 < cLine := by
      have := hr.un
      omega
    have hu64 : (A.deeper (envOfC "_law_table" (defScope s_law_table) s.heap.objs.size f cdv)).units + 64 < cLine := by omega
    have hu1 : (A.deeper (envOfC "_law_table" (defScope s_law_table) s.heap.objs.size f cdv)).units + 1 < cLine := by omega
    exact (ssj_cons (sj_par (i := 3) (j := 4) rfl nd_law_table (vj_mask (ed_op opr_add ok_add ed_int (ed_cal C_law_draw (hr.mono (by decide)) pass_def (ld_cons (ed_var 0) (ld_cons (ed_var 2) ld_nil))))) vj_dict)
    (ssj_cons (sj_for (passes_of rfl) rfl (ij_any (ed_var 1)) (tj_name (i := 5) nd_law_table) (ssj_one (sj_stD (i := 4) hu1 (vj_mask (ed_cal C_law_of (hr.mono (by decide)) pass_def (ld_cons (ed_var 0) (ld_cons (ed_lst (ld_cons ed_int (ld_cons (ed_var 3) (ld_cons (ed_var 3) (ld_cons (ed_op opr_add ok_add ed_int (ed_cal C_law_draw (hr.mono (by decide)) pass_def (ld_cons (ed_var 0) (ld_cons (ed_var 2) ld_nil)))) ld_nil))))) ld_nil)))) (vj_mask (ed_var 5)) (pv 4))))
    (ssj_frz 4 (ssj_one (sj_ret (ed_var 4))))))
theorem cal_law_table {P : Program} {w : World} {K : PySem.W.Frag} {mg : Str → Option Value} {base : Heap} (T : Txt mg) (D0 : Dff K mg "_law_table" ["_law_feed_here", "_law_letters", "_law_top"] s_law_table) (C_law_draw : Cal P w K mg base 1 "_law_draw" ["_law_feed_here", "_law_upto"] g_law_draw) (C_law_of : Cal P w K mg base 2 "_law_of" ["_law_feed_here", "_law_items"] g_law_of) : Cal P w K mg base 3 "_law_table" ["_law_feed_here", "_law_letters", "_law_top"] g_law_table := cal_of D0 (fo_law_table T C_law_draw C_law_of)
theorem kal_law_table {P : Program} {w : World} {K : PySem.W.Frag} {mg : Str → Option Value} {base : Heap} (T : Txt mg) (D0 : Kff K mg "_law_table" ["_law_feed_here", "_law_letters", "_law_top"] 0 ["_law_feed_here", "_law_letters", "_law_top"] s_law_table) (C_law_draw : Cal P w K mg base 1 "_law_draw" ["_law_feed_here", "_law_upto"] g_law_draw) (C_law_of : Cal P w K mg base 2 "_law_of" ["_law_feed_here", "_law_items"] g_law_of) : Kal P w K mg base 3 "_law_table" ["_law_feed_here", "_law_letters", "_law_top"] 0 ["_law_feed_here", "_law_letters", "_law_top"] g_law_table := kal_of D0 (fo_law_table T C_law_draw C_law_of)
abbrev s_law_pairs : Stmt := topS 17
abbrev n_law_pairs : List Str := ["_law_one", "_law_two", "_law_many", "_law_left", "_law_right", "_law_k"]
theorem sc_law_pairs : FnScope n_law_pairs ["_law_one", "_law_two"] (defScope s_law_pairs) := ⟨rfl, rfl, rfl, by decide +kernel, rfl, by decide +kernel, by decide +kernel⟩
theorem nd_law_pairs : List.Nodup n_law_pairs := sc_law_pairs.nd
def b_law_pairs : Sts → M (Fl × Sts) :=
  (gSeq (gSet 2 (vMask (dFn maxD (lCons (dFn lenD (lCons (dVar 0) lNil)) (lCons (dFn lenD (lCons (dVar 1) lNil)) lNil)))))
    (gSeq (gSet 3 (vMask (dOp addD (dOp mulD (dFn mkLst (lCons (dC .non) lNil)) (dOp subD (dVar 2) (dFn lenD (lCons (dVar 0) lNil)))) (dFn listA (lCons (dVar 0) lNil)))))
    (gSeq (gSet 4 (vMask (dOp addD (dOp mulD (dFn mkLst (lCons (dC .non) lNil)) (dOp subD (dVar 2) (dFn lenD (lCons (dVar 1) lNil)))) (dFn listA (lCons (dVar 1) lNil)))))
    (gRet (dNew (dLc (iFn rng1 (lCons (dVar 2) lNil)) (bName 5) cYes (dFn mkTup (lCons (dOp ixD (dVar 3) (dVar 5)) (lCons (dOp ixD (dVar 4) (dVar 5)) lNil)))))))))
def g_law_pairs : List D → M D := runD 6 2 b_law_pairs
theorem fo_law_pairs {P : Program} {w : World} {K : PySem.W.Frag} {mg : Str → Option Value} {base : Heap} (T : Txt mg) (f : Addr) (fd : FuncData) (F : Fun K "_law_pairs" "_law_pairs" s_law_pairs f fd) : FnOk P w K mg base (L2.CX P w) 1 f fd ["_law_one", "_law_two"] (DSp K mg g_law_pairs) :=
  fn_d (k := 0) F sc_law_pairs (by decide) fun cdv A outer s H E fa hr => by
    have hu65 : (A.deeper (envOfC "_law_pairs" (defScope s_law_pairs) s.heap.objs.size f cdv)).units + 65 < cLine := by
      have := hr.un
      omega
    have hu64 : (A.deeper (envOfC "_law_pairs" (defScope s_law_pairs) s.heap.objs.size f cdv)).units + 64 < cLine := by omega
    have hu1 : (A.deeper (envOfC "_law_pairs" (defScope s_law_pairs) s.heap.objs.size f cdv)).units + 1 < cLine := by omega
    exact (ssj_cons (sj_set (i := 2) nd_law_pairs (vj_mask (ed_callB (crl_max rfl) ok_max T.max_ (ld_cons (ed_callB crl_len ok_len T.len_ (ld_cons (ed_var 0) ld_nil)) (ld_cons (ed_callB crl_len ok_len T.len_ (ld_cons (ed_var 1) ld_nil)) ld_nil)))))
    (ssj_cons (sj_set (i := 3) nd_law_pairs (vj_mask (ed_op opr_add ok_add (ed_op opr_mul ok_mul (ed_lst (ld_cons ed_non ld_nil)) (ed_op op_sub ok_sub (ed_var 2) (ed_callB crl_len ok_len T.len_ (ld_cons (ed_var 0) ld_nil)))) (ed_callTy (call_listA rfl) ok_listA T.list_ (ld_cons (ed_var 0) ld_nil)))))
    (ssj_cons (sj_set (i := 4) nd_law_pairs (vj_mask (ed_op opr_add ok_add (ed_op opr_mul ok_mul (ed_lst (ld_cons ed_non ld_nil)) (ed_op op_sub ok_sub (ed_var 2) (ed_callB crl_len ok_len T.len_ (ld_cons (ed_var 1) ld_nil)))) (ed_callTy (call_listA rfl) ok_listA T.list_ (ld_cons (ed_var 1) ld_nil)))))
    (ssj_one (sj_ret (ND.ed (nd_lc rfl nd_law_pairs (ij_range1 T.range_ (ld_cons (ed_var 2) ld_nil)) (blkOk_by (own := [("_law_k", 5)]) (N := n_law_pairs) (sc := defScope s_law_pairs) (by decide +kernel)) (by decide) (by decide) (fun _ _ _ _ _ => (tj_name (i := 5) nd_law_pairs)) (fun _ _ _ _ _ => ptd_nil) (fun _ _ _ _ _ => (ed_tup (ld_cons (ed_ix hu1 (ed_var 3) (ed_var 5)) (ld_cons (ed_ix hu1 (ed_var 4) (ed_var 5)) ld_nil)))))))))))
theorem cal_law_pairs {P : Program} {w : World} {K : PySem.W.Frag} {mg : Str → Option Value} {base : Heap} (T : Txt mg) (D0 : Dff K mg "_law_pairs" ["_law_one", "_law_two"] s_law_pairs) : Cal P w K mg base 1 "_law_pairs" ["_law_one", "_law_two"] g_law_pairs := cal_of D0 (fo_law_pairs T)
theorem kal_law_pairs {P : Program} {w : World} {K : PySem.W.Frag} {mg : Str → Option Value} {base : Heap} (T : Txt mg) (D0 : Kff K mg "_law_pairs" ["_law_one", "_law_two"] 0 ["_law_one", "_law_two"] s_law_pairs) : Kal P w K mg base 1 "_law_pairs" ["_law_one", "_law_two"] 0 ["_law_one", "_law_two"] g_law_pairs := kal_of D0 (fo_law_pairs T)
abbrev s_law_meet : Stmt := topS 18
abbrev n_law_meet : List Str := ["_law_one", "_law_two", "_law_table_here", "_law_a", "_law_b"]
theorem sc_law_meet : FnScope n_law_meet ["_law_one", "_law_two", "_law_table_here"] (defScope s_law_meet) := ⟨rfl, rfl, rfl, by decide +kernel, rfl, by decide +kernel, by decide +kernel⟩
theorem nd_law_meet : List.Nodup n_law_meet := sc_law_meet.nd
def b_law_meet : Sts → M (Fl × Sts) :=
  (gSeq (gIf (cOr (cCmp isD (dVar 0) (dC .non)) (cCmp isD (dVar 1) (dC .non))) (gRet (dIf (cCmp isD (dVar 0) (dC .non)) (dVar 1) (dVar 0))) gNext)
    (gSeq (gPar 3 4 (vMask (dCall g_law_size (lCons (dVar 0) (lCons (dVar 2) lNil)))) (vMask (dCall g_law_size (lCons (dVar 1) (lCons (dVar 2) lNil)))))
    (gSeq (gIf (cCmp eqD (dVar 3) (dVar 4)) (gRet (dIf (cCmp eqD (dVar 0) (dC (.int 1))) (dVar 1) (dVar 0))) gNext)
    (gRet (dIf (cCmp eqD (dVar 3) (dC (.int 1))) (dVar 1) (dIf (cCmp eqD (dVar 4) (dC (.int 1))) (dVar 0) (dC (.int 0))))))))
def g_law_meet : List D → M D := runD 5 3 b_law_meet
theorem fo_law_meet {P : Program} {w : World} {K : PySem.W.Frag} {mg : Str → Option Value} {base : Heap} (T : Txt mg) (C_law_size : Cal P w K mg base 1 "_law_size" ["_law_side", "_law_table_here"] g_law_size) (f : Addr) (fd : FuncData) (F : Fun K "_law_meet" "_law_meet" s_law_meet f fd) : FnOk P w K mg base (L2.CX P w) 2 f fd ["_law_one", "_law_two", "_law_table_here"] (DSp K mg g_law_meet) :=
  fn_d (k := 1) F sc_law_meet (by decide) fun cdv A outer s H E fa hr => by
    have hu65 : (A.deeper (envOfC "_law_meet" (defScope s_law_meet) s.heap.objs.size f cdv)).units + 65 < cLine := by
      have := hr.un
      omega
    have hu64 : (A.deeper (envOfC "_law_meet" (defScope s_law_meet) s.heap.objs.size f cdv)).units + 64 < cLine := by omega
    have hu1 : (A.deeper (envOfC "_law_meet" (defScope s_law_meet) s.heap.objs.size f cdv)).units + 1 < cLine := by omega
    exact (ssj_cons (sj_if (TWD.td (twd_or (td_cmp op_isN ok_is (ed_var 0) ed_non) (twd_or1 (td_cmp op_isN ok_is (ed_var 1) ed_non)))) (ssj_one (sj_ret (ed_if (td_cmp op_isN ok_is (ed_var 0) ed_non) (ed_var 1) (ed_var 0)))) ssj_nil)
    (ssj_cons (sj_par (i := 3) (j := 4) rfl nd_law_meet (vj_mask (ed_cal C_law_size (hr.mono (by decide)) pass_def (ld_cons (ed_var 0) (ld_cons (ed_var 2) ld_nil)))) (vj_mask (ed_cal C_law_size (hr.mono (by decide)) pass_def (ld_cons (ed_var 1) (ld_cons (ed_var 2) ld_nil)))))
    (ssj_cons (sj_if (td_cmp (opr_eq hu64) ok_eq (ed_var 3) (ed_var 4)) (ssj_one (sj_ret (ed_if (td_cmp (opr_eq hu64) ok_eq (ed_var 0) ed_int) (ed_var 1) (ed_var 0)))) ssj_nil)
    (ssj_one (sj_ret (ed_if (td_cmp (opr_eq hu64) ok_eq (ed_var 3) ed_int) (ed_var 1) (ed_if (td_cmp (opr_eq hu64) ok_eq (ed_var 4) ed_int) (ed_var 0) ed_int)))))))
theorem cal_law_meet {P : Program} {w : World} {K : PySem.W.Frag} {mg : Str → Option Value} {base : Heap} (T : Txt mg) (D0 : Dff K mg "_law_meet" ["_law_one", "_law_two", "_law_table_here"] s_law_meet) (C_law_size : Cal P w K mg base 1 "_law_size" ["_law_side", "_law_table_here"] g_law_size) : Cal P w K mg base 2 "_law_meet" ["_law_one", "_law_two", "_law_table_here"] g_law_meet := cal_of D0 (fo_law_meet T C_law_size)
theorem kal_law_meet {P : Program} {w : World} {K : PySem.W.Frag} {mg : Str → Option Value} {base : Heap} (T : Txt mg) (D0 : Kff K mg "_law_meet" ["_law_one", "_law_two", "_law_table_here"] 0 ["_law_one", "_law_two", "_law_table_here"] s_law_meet) (C_law_size : Cal P w K mg base 1 "_law_size" ["_law_side", "_law_table_here"] g_law_size) : Kal P w K mg base 2 "_law_meet" ["_law_one", "_law_two", "_law_table_here"] 0 ["_law_one", "_law_two", "_law_table_here"] g_law_meet := kal_of D0 (fo_law_meet T C_law_size)
abbrev s_law : Stmt := topS 19
abbrev n_law : List Str := ["_law_script", "_law_feed_here", "_law_turn", "_law_letters", "_law_first", "_law_second", "_law_table_here", "_law_kept", "_law_a", "_law_b", "_law_due", "_law_c", "_law_d"]
theorem sc_law : FnScope n_law ["_law_script"] (defScope s_law) := ⟨rfl, rfl, rfl, by decide +kernel, rfl, by decide +kernel, by decide +kernel⟩
theorem nd_law : List.Nodup n_law := sc_law.nd
def b_law : Sts → M (Fl × Sts) :=
  (gSeq (gFor (iFn rng1 (lCons (dC (.int 12)) lNil)) (bName 2) (gSeq (gSet 3 (vMask (dCall g_law_some_letters (lCons (dVar 1) (lCons (dOp addD (dC (.int 1)) (dCall g_law_draw (lCons (dVar 1) (lCons (dC (.int 3)) lNil)))) lNil)))))
    (gSeq (gPar 4 5 (vMask (dCall g_law_sides (lCons (dVar 1) (lCons (dVar 3) (lCons (dC (.int 4)) lNil))))) (vMask (dCall g_law_sides (lCons (dVar 1) (lCons (dVar 3) (lCons (dC (.int 4)) lNil))))))
    (gSeq (gSet 6 (vMask (dCall g_law_table (lCons (dVar 1) (lCons (dVar 3) (lCons (dCall g_law_of (lCons (dVar 1) (lCons (dFn mkLst (lCons (dC (.int 2)) (lCons (dC (.int 5)) (lCons (dC (.int 1000000)) lNil)))) lNil))) lNil))))))
    (gSeq (gSet 7 (vMask (dFn dictD (lCons (dVar 6) lNil))))
    (gSeq (gFor (iAny (dFn mkLst (lCons (dFn mkTup (lCons (dVar 4) (lCons (dVar 5) lNil))) (lCons (dFn mkTup (lCons (dVar 5) (lCons (dVar 4) lNil))) (lCons (dFn mkTup (lCons (dVar 4) (lCons (dVar 4) lNil))) (lCons (dFn mkTup (lCons (dVar 4) (lCons (dFn mkTup lNil) lNil))) (lCons (dFn mkTup (lCons (dFn mkTup lNil) (lCons (dVar 5) lNil))) lNil))))))) (bTup (bCons (bName 8) (bCons (bName 9) bNil))) (gSeq (gSet 10 (vNew (dLc (iAny (dCall g_law_pairs (lCons (dVar 8) (lCons (dVar 9) lNil)))) (bTup (bCons (bName 11) (bCons (bName 12) bNil))) cYes (dCall g_law_meet (lCons (dVar 11) (lCons (dVar 12) (lCons (dVar 6) lNil)))))))
    (gFrz 10 (gIf (cNot (cTru (dCall g_law_same (lCons (dCall g_broadcast (lCons (dVar 8) (lCons (dVar 9) (lCons (dVar 6) lNil)))) (lCons (dIf (cCmp inD (dC (.int 0)) (dVar 10)) (dC .non) (dFn tupleD (lCons (dVar 10) lNil))) lNil))))) (gRet (dC (.bl false))) gNext))))
    (gIf (cNot (cTru (dCall g_law_same (lCons (dVar 6) (lCons (dVar 7) lNil))))) (gRet (dC (.bl false))) gNext)))))))
    (gRet (dC (.bl true))))
theorem ok_law {P : Program} {w : World} {K : PySem.W.Frag} {mg : Str → Option Value} {base : Heap} (T : Txt mg) (C_law_feed : Cal P w K mg base 1 "_law_feed" ["_law_script"] g_law_feed) (C_law_some_letters : Cal P w K mg base 2 "_law_some_letters" ["_law_feed_here", "_law_upto"] g_law_some_letters) (C_law_draw : Cal P w K mg base 1 "_law_draw" ["_law_feed_here", "_law_upto"] g_law_draw) (C_law_sides : Cal P w K mg base 4 "_law_sides" ["_law_feed_here", "_law_letters", "_law_rank"] g_law_sides) (C_law_table : Cal P w K mg base 3 "_law_table" ["_law_feed_here", "_law_letters", "_law_top"] g_law_table) (C_law_of : Cal P w K mg base 2 "_law_of" ["_law_feed_here", "_law_items"] g_law_of) (C_law_pairs : Cal P w K mg base 1 "_law_pairs" ["_law_one", "_law_two"] g_law_pairs) (C_law_meet : Cal P w K mg base 2 "_law_meet" ["_law_one", "_law_two", "_law_table_here"] g_law_meet) (C_law_same : Cal P w K mg base 9 "_law_same" ["_law_found", "_law_due"] g_law_same) (C_broadcast : Cal P w K mg base 3 "broadcast" ["one", "other", "sizes"] g_broadcast) {f : Addr} {fd : FuncData} (F : Fun K "law" "law" s_law f fd)
    (hff : ∀ ns s, ns.length ≤ 63 → g_law_feed [.scr ns] s = .ok (.lst (feedL (fs1 ns))) s)
    (hg : ∀ ns : List Int, ns.length ≤ 63 → ∃ ρ' s', b_law (.no :: .d .feed :: List.replicate 11 .no) (fs1 ns) = .ok (.rt (.bl true), ρ') s') : FnOk P w K mg base CX0 10 f fd ["_law_script"] (spLaw K) :=
  fn_law (k := 9) F sc_law rfl rfl (fun cdv A outer s H E hr => sj_set (i := 1) nd_law (vj_mask (ed_cal C_law_feed (hr.mono (by decide)) pass_def (ld_cons (ed_var 0) ld_nil)))) hff (fun cdv A outer s H E fa hr => by
    have hu65 : (A.deeper (envOfC "law" (defScope s_law) s.heap.objs.size f cdv)).units + 65 < cLine := by
      have := hr.un
      omega
    have hu64 : (A.deeper (envOfC "law" (defScope s_law) s.heap.objs.size f cdv)).units + 64 < cLine := by omega
    have hu1 : (A.deeper (envOfC "law" (defScope s_law) s.heap.objs.size f cdv)).units + 1 < cLine := by omega
    exact (ssj_cons (sj_for (passes_of rfl) rfl (ij_range1 T.range_ (ld_cons ed_int ld_nil)) (tj_name (i := 2) nd_law) (ssj_cons (sj_set (i := 3) nd_law (vj_mask (ed_cal C_law_some_letters (hr.mono (by decide)) pass_def (ld_cons (ed_var 1) (ld_cons (ed_op opr_add ok_add ed_int (ed_cal C_law_draw (hr.mono (by decide)) pass_def (ld_cons (ed_var 1) (ld_cons ed_int ld_nil)))) ld_nil)))))
    (ssj_cons (sj_par (i := 4) (j := 5) rfl nd_law (vj_mask (ed_cal C_law_sides (hr.mono (by decide)) pass_def (ld_cons (ed_var 1) (ld_cons (ed_var 3) (ld_cons ed_int ld_nil))))) (vj_mask (ed_cal C_law_sides (hr.mono (by decide)) pass_def (ld_cons (ed_var 1) (ld_cons (ed_var 3) (ld_cons ed_int ld_nil))))))
    (ssj_cons (sj_set (i := 6) nd_law (vj_mask (ed_cal C_law_table (hr.mono (by decide)) pass_def (ld_cons (ed_var 1) (ld_cons (ed_var 3) (ld_cons (ed_cal C_law_of (hr.mono (by decide)) pass_def (ld_cons (ed_var 1) (ld_cons (ed_lst (ld_cons ed_int (ld_cons ed_int (ld_cons ed_int ld_nil)))) ld_nil))) ld_nil))))))
    (ssj_cons (sj_set (i := 7) nd_law (vj_mask (ed_callTy call_dictD ok_dict T.dict_ (ld_cons (ed_var 6) ld_nil))))
    (ssj_cons (sj_for (passes_of rfl) rfl (ij_any (ed_lst (ld_cons (ed_tup (ld_cons (ed_var 4) (ld_cons (ed_var 5) ld_nil))) (ld_cons (ed_tup (ld_cons (ed_var 5) (ld_cons (ed_var 4) ld_nil))) (ld_cons (ed_tup (ld_cons (ed_var 4) (ld_cons (ed_var 4) ld_nil))) (ld_cons (ed_tup (ld_cons (ed_var 4) (ld_cons (ed_tup ld_nil) ld_nil))) (ld_cons (ed_tup (ld_cons (ed_tup ld_nil) (ld_cons (ed_var 5) ld_nil))) ld_nil))))))) (tj_tup rfl (tsj_cons (tj_name (i := 8) nd_law) (tsj_cons (tj_name (i := 9) nd_law) tsj_nil)) (bCons_len (bCons_len bNil_len))) (ssj_cons (sj_setLc (i := 10) rfl nd_law (ij_any (ed_cal C_law_pairs (hr.mono (by decide)) pass_def (ld_cons (ed_var 8) (ld_cons (ed_var 9) ld_nil)))) (blkOk_by (own := [("_law_c", 11), ("_law_d", 12)]) (N := n_law) (sc := defScope s_law) (by decide +kernel)) (by decide) (by decide) (fun _ _ _ _ _ => (tj_tup rfl (tsj_cons (tj_name (i := 11) nd_law) (tsj_cons (tj_name (i := 12) nd_law) tsj_nil)) (bCons_len (bCons_len bNil_len)))) (fun _ _ _ _ _ => ptd_nil) (fun _ _ _ _ _ => (ed_cal C_law_meet (hr.mono (by decide)) pass_blk (ld_cons (ed_var 11) (ld_cons (ed_var 12) (ld_cons (ed_var 6) ld_nil))))))
    (ssj_frz 10 (ssj_one (sj_if (td_not (td_tru (ed_cal C_law_same (hr.mono (by decide)) pass_def (ld_cons (ed_cal C_broadcast (hr.mono (by decide)) pass_def (ld_cons (ed_var 8) (ld_cons (ed_var 9) (ld_cons (ed_var 6) ld_nil)))) (ld_cons (ed_if (td_cmp (opr_in hu65) ok_in ed_int (ed_var 10)) ed_non (ed_callTy call_tuple_of ok_tuple T.tuple_ (ld_cons (ed_var 10) ld_nil))) ld_nil))))) (ssj_one (sj_ret ed_bl)) ssj_nil)))))
    (ssj_one (sj_if (td_not (td_tru (ed_cal C_law_same (hr.mono (by decide)) pass_def (ld_cons (ed_var 6) (ld_cons (ed_var 7) ld_nil))))) (ssj_one (sj_ret ed_bl)) ssj_nil))))))))
    (ssj_one (sj_ret ed_bl)))) hg
end Q

set_option Elab.async false
set_option linter.all false
set_option maxRecDepth 100000
set_option maxHeartbeats 4000000
local macro_rules | `(tactic| walk_at "rm") => `(tactic| repeat (first
  | with_reducible refine DL.Rm.seq ?_
  | with_reducible refine DL.Rm.seqNx ?_
  | with_reducible refine DL.Rm.seqRt ?_
  | with_reducible refine DL.Rm.seqCt ?_
  | with_reducible refine DL.Rm.seqBk ?_
  | with_reducible refine DL.Rm.next ?_
  | with_reducible refine DL.Rm.setM ?_
  | with_reducible refine DL.Rm.setV ?_
  | with_reducible refine DL.Rm.setN ?_
  | with_reducible refine DL.Rm.set ?_
  | with_reducible refine DL.Rm.drop ?_
  | with_reducible refine DL.Rm.cond ?_
  | with_reducible refine DL.Rm.ret ?_
  | with_reducible refine DL.Rm.retN ?_
  | with_reducible refine DL.Rm.brk ?_
  | with_reducible refine DL.Rm.cont ?_
  | with_reducible refine DL.Rm.frz ?_
  | with_reducible refine DL.Rm.vmask ?_
  | with_reducible refine DL.Rm.vview ?_
  | with_reducible refine DL.Rm.vnew ?_
  | with_reducible refine DL.Rm.vnewD ?_
  | with_reducible refine DL.Rm.lvnil ?_
  | with_reducible refine DL.Rm.lvcons ?_
  | with_reducible refine DL.Rm.lvk ?_
  | with_reducible refine DL.Rm.bind ?_
  | (with_reducible refine DL.Rm.par ?h ?_; (case h => simp only [List.length_cons, List.length_nil]; omega))
  | with_reducible refine DL.Rm.asgT ?_
  | with_reducible refine DL.Rm.asgk ?_
  | with_reducible refine DL.Rm.for_ ?_
  | with_reducible refine DL.Rm.stD ?_
  | with_reducible refine DL.Rm.runNx ?_
  | with_reducible refine DL.Rm.runRt ?_
  | with_reducible refine DL.Rm.iteT ?_
  | with_reducible refine DL.Rm.iteF ?_
  | (with_reducible refine DL.Rm.ifT ?h ?_; (case h => first | decide | decide +kernel | (simp; done)))
  | (with_reducible refine DL.Rm.ifF ?h ?_; (case h => first | decide | decide +kernel | (simp; done)))
  | with_reducible refine DL.Rm.var ?_
  | with_reducible refine DL.Rm.con ?_
  | with_reducible refine DL.Rm.op ?_
  | with_reducible refine DL.Rm.un ?_
  | with_reducible refine DL.Rm.lnil ?_
  | with_reducible refine DL.Rm.lcons ?_
  | with_reducible refine DL.Rm.fn ?_
  | with_reducible refine DL.Rm.call ?_
  | with_reducible refine DL.Rm.mt ?_
  | with_reducible refine DL.Rm.dif ?_
  | with_reducible refine DL.Rm.dand ?_
  | with_reducible refine DL.Rm.dor ?_
  | with_reducible refine DL.Rm.dnot ?_
  | with_reducible refine DL.Rm.tru ?_
  | with_reducible refine DL.Rm.cmp ?_
  | with_reducible refine DL.Rm.chain ?_
  | (with_reducible refine DL.Rm.chainT ?h ?_; (case h => first | decide | decide +kernel | (simp; done)))
  | (with_reducible refine DL.Rm.chainF ?h ?_; (case h => first | decide | decide +kernel | (simp; done)))
  | with_reducible refine DL.Rm.cchain ?_
  | with_reducible refine DL.Rm.cnot ?_
  | with_reducible refine DL.Rm.cand ?_
  | with_reducible refine DL.Rm.cor ?_
  | with_reducible refine DL.Rm.cyes ?_
  | with_reducible refine DL.Rm.isi ?_
  | with_reducible refine DL.Rm.get2 ?_
  | with_reducible refine DL.Rm.get2k ?_
  | with_reducible refine DL.Rm.dnew ?_
  | with_reducible refine DL.Rm.sl ?_
  | with_reducible refine DL.Rm.ono ?_
  | with_reducible refine DL.Rm.osome ?_
  | with_reducible refine DL.Rm.iany ?_
  | with_reducible refine DL.Rm.ifn ?_
  | with_reducible refine DL.Rm.lc ?_
  | with_reducible refine DL.Rm.pure ?_
  | (with_reducible refine DL.Rm.rng1 ?h ?_; (case h => omega))
  | with_reducible refine DL.Rm.rng1 ?_ ?_
  | (with_reducible refine DL.Rm.rng2 ?h ?_; (case h => omega))
  | with_reducible refine DL.Rm.rng2 ?_ ?_
  | (with_reducible refine DL.Rm.modp ?h ?_; (case h => omega))
  | with_reducible refine DL.Rm.modp ?_ ?_
  | (with_reducible refine DL.Rm.mulp ?h ?_; (case h => omega))
  | with_reducible refine DL.Rm.mulp ?_ ?_
  | (with_reducible refine DL.Rm.fdivp ?h ?_; (case h => omega))
  | with_reducible refine DL.Rm.fdivp ?_ ?_
  | with_reducible refine DL.Rm.addl ?_ ?_
  | with_reducible refine DL.Rm.addt ?_ ?_
  | with_reducible refine DL.Rm.app ?_ ?_
  | with_reducible refine DL.Rm.eqi ?_
  | (with_reducible refine DL.Rm.slLhi ?h ?_; (case h => omega))
  | (with_reducible refine DL.Rm.slLlo ?h ?_; (case h => omega))
  | (with_reducible refine DL.Rm.slThi ?h ?_; (case h => omega))
  | (with_reducible refine DL.Rm.slTlo ?h ?_; (case h => omega))
  | (with_reducible refine DL.Rm.slS ?h ?_; (case h => omega))
  | with_reducible refine DL.Rm.slS ?_ ?_
  | (with_reducible refine DL.Rm.adds ?h ?_; (case h => omega))
  | with_reducible refine DL.Rm.adds ?_ ?_
  | (with_reducible refine DL.Rm.lenS ?h ?_; (case h => omega))
  | with_reducible refine DL.Rm.lenS ?_ ?_
  | (with_reducible refine DL.Rm.lift2 ?_; refine ⟨_, rfl, ?_⟩)))

namespace Q
open PySem PySem.Spec PyProof.Rows L2 DL
/-- data that a text may be compared by -/
def plnB : Nat → D → Prop
  | 0, _ => False
  | _ + 1, .non => True
  | _ + 1, .bl _ => True
  | _ + 1, .int i => i.natAbs.log2 < 1920
  | _ + 1, .str x => (reprText x).length ≤ sizeLine
  | n + 1, .tup xs => xs.length ≤ sizeLine ∧ ∀ x, x ∈ xs → plnB n x
  | n + 1, .lst xs => xs.length ≤ sizeLine ∧ ∀ x, x ∈ xs → plnB n x
  | n + 1, .dic kvs => kvs.length ≤ sizeLine ∧ (kvs.map (·.1)).Nodup ∧ ∀ kv, kv ∈ kvs → plnB n kv.2
  | _ + 1, _ => False
theorem keyD_keyV : ∀ k : Key, keyD (keyV k) = some k
  | .inl _ => rfl
  | .inr _ => rfl
theorem look_mem : ∀ {kvs : List (Key × D)} {k : Key} {d : D}, (kvs.map (·.1)).Nodup → (k, d) ∈ kvs → lookD kvs k = some d
  | (k', d') :: kvs, k, d, hn, hm => by
    rw [List.map_cons, List.nodup_cons] at hn
    rcases List.mem_cons.mp hm with e | hm
    · cases e
      simp [lookD]
    · have hne : ¬ k' = k := fun e => hn.1 (by subst e; exact List.mem_map.mpr ⟨_, hm, rfl⟩)
      have := look_mem hn.2 hm
      unfold lookD at this ⊢
      rw [List.find?_cons_of_neg (by simpa using hne)]
      exact this
theorem in_key (kvs : List (Key × D)) (k : Key) : inD (keyV k) (.dic kvs) = some (.bl (lookD kvs k).isSome) := by
  cases k <;> rfl
theorem ix_key (kvs : List (Key × D)) (k : Key) : ixD (.dic kvs) (keyV k) = lookD kvs k := by
  cases k <;> rfl
theorem Rm.keys {i : Nat} {ρ : Env'} {s : FS} {kvs : List (Key × D)} {Q : List D → FS → Prop} (e : ρ[i]?.join = some (.dic kvs)) (q : Q (kvs.map fun kv => keyV kv.1) s) : Rm (keysD i ρ) s Q := by
  refine Rm.eq (a := kvs.map fun kv => keyV kv.1) (s' := s) ?_ q
  unfold keysD
  rw [e]
  rfl
theorem atI_ok {α : Type} {xs : List α} {i : Nat} {x : α} (h : xs[i]? = some x) : atI xs (0 + (i : Int)) = some x := by
  have hl := (List.getElem?_eq_some_iff.mp h).1
  unfold atI ixN
  rw [if_pos (by omega), if_pos (by omega)]
  show xs[(0 + (i : Int)).toNat]? = _
  rw [show (0 + (i : Int)).toNat = i by omega]
  exact h
theorem bls_true {α : Type} : ∀ xs : List α, blsD (xs.map fun _ => D.bl true) = some (xs.map fun _ => true)
  | [] => rfl
  | _ :: xs => by
    show (blsD (xs.map fun _ => D.bl true)).map _ = _
    rw [bls_true xs]
    rfl
theorem all_true {α : Type} (xs : List α) : allD [.lst (xs.map fun _ => D.bl true)] = some (.bl true) := by
  show (blsD _).map _ = _
  rw [bls_true]
  show some (D.bl _) = _
  congr 2
  simp
theorem sizeLine_62 : sizeLine < 2 ^ 62 := by decide
theorem same_ok : ∀ (n : Nat) (d : D) (s : FS), plnB n d → g_same n [d, d] s = .ok (.bl true) s
  | n + 1, d, s, h => by
    refine Rm.det ?_
    show Rm (runD 4 2 (b_law_same (g_same n)) [d, d]) s _
    refine Rm.run rfl ?_
    unfold b_law_same
    show Rm (gSeq _ _ [.d d, .d d, .no, .no]) s _
    cases d with
    | non => walk_at "rm"; exact ⟨by simp, rfl⟩
    | bl b => 
      walk_at "rm"
      exact ⟨by simp, rfl⟩
    | int i => 
      walk_at "rm"
      refine Rm.lift (if_pos h) ?_
      walk_at "rm"
      refine Rm.lift (if_pos h) ?_
      walk_at "rm"
      exact ⟨by simp, rfl⟩
    | str x => 
      walk_at "rm"
      refine Rm.lift (if_pos h) ?_
      walk_at "rm"
      refine Rm.lift (if_pos h) ?_
      walk_at "rm"
      exact ⟨by simp, rfl⟩
    | tup xs =>
      obtain ⟨hl, hx⟩ := h
      have h62 := sizeLine_62
      walk_at "rm"
      refine ⟨by rw [rangeD_len]; omega, Rm.lcMap (fun _ => .bl true) (fun x hm => ⟨_, rfl, ?_⟩) ?_⟩
      · obtain ⟨i, hi, rfl⟩ := rangeD_mem hm
        have hi : i < xs.length := by omega
        refine Rm.det ?_
        walk_at "rm"
        refine Rm.lift (atI_ok (List.getElem?_eq_getElem hi)) ?_
        walk_at "rm"
        refine Rm.lift (atI_ok (List.getElem?_eq_getElem hi)) ?_
        walk_at "rm"
        exact Rm.eq (same_ok n _ s (hx _ (List.getElem_mem hi))) ⟨rfl, rfl⟩
      · walk_at "rm"
        refine Rm.lift (all_true _) ?_
        walk_at "rm"
        exact ⟨rfl, rfl⟩
    | lst xs =>
      obtain ⟨hl, hx⟩ := h
      have h62 := sizeLine_62
      walk_at "rm"
      refine ⟨by rw [rangeD_len]; omega, Rm.lcMap (fun _ => .bl true) (fun x hm => ⟨_, rfl, ?_⟩) ?_⟩
      · obtain ⟨i, hi, rfl⟩ := rangeD_mem hm
        have hi : i < xs.length := by omega
        refine Rm.det ?_
        walk_at "rm"
        refine Rm.lift (atI_ok (List.getElem?_eq_getElem hi)) ?_
        walk_at "rm"
        refine Rm.lift (atI_ok (List.getElem?_eq_getElem hi)) ?_
        walk_at "rm"
        exact Rm.eq (same_ok n _ s (hx _ (List.getElem_mem hi))) ⟨rfl, rfl⟩
      · walk_at "rm"
        refine Rm.lift (all_true _) ?_
        walk_at "rm"
        exact ⟨rfl, rfl⟩
    | dic kvs =>
      obtain ⟨hl, hn, hx⟩ := h
      have h62 := sizeLine_62
      walk_at "rm"
      refine Q.Rm.keys rfl ?_
      refine ⟨by rw [List.length_map]; exact hl, Rm.lcMap (fun _ => .bl true) (fun x hm => ⟨_, rfl, ?_⟩) ?_⟩
      · obtain ⟨⟨k, d⟩, hkv, rfl⟩ := List.mem_map.mp hm
        have lk := look_mem hn hkv
        refine Rm.det ?_
        walk_at "rm"
        refine Rm.lift (in_key kvs k) ?_
        rw [lk]
        walk_at "rm"
        refine Rm.lift ((ix_key kvs k).trans lk) ?_
        walk_at "rm"
        refine Rm.lift ((ix_key kvs k).trans lk) ?_
        walk_at "rm"
        exact Rm.eq (same_ok n d s (hx _ hkv)) ⟨rfl, rfl⟩
      · walk_at "rm"
        refine Rm.lift (all_true _) ?_
        walk_at "rm"
        exact ⟨rfl, rfl⟩
    | _ => exact h.elim
theorem feed_ok (ns : List Int) (s : FS) (hl : ns.length ≤ 63) : g_law_feed [.scr ns] s = .ok (.lst (feedL (fs1 ns))) s := by
  have cut : slD (.scr ns) none (some 63) = some (.lst (ns.map D.int)) := by
    show some (D.lst (((ns.drop (HT.sIx ns.length 0 none)).take (HT.sIx ns.length ns.length (some 63) - HT.sIx ns.length 0 none)).map D.int)) = _
    have h1 : HT.sIx ns.length 0 none = 0 := rfl
    have h2 : HT.sIx ns.length ns.length (some 63) = ns.length := by
      unfold HT.sIx
      simp
      omega
    rw [h1, h2]
    simp
  have cut' : ((ns.drop (HT.sIx ns.length 0 none)).take (HT.sIx ns.length ns.length (some 63) - HT.sIx ns.length 0 none)).map D.int = ns.map D.int := D.lst.inj (Option.some.inj cut)
  refine Rm.det ?_
  unfold g_law_feed
  refine Rm.run rfl ?_
  unfold b_law_feed
  show Rm (gSeq _ _ [.d (.scr ns), .no, .no]) s _
  walk_at "rm"
  rw [cut']
  refine Rm.loop (fun xs ρ s' => ∃ (r : List Int) (st : Int) (e : EV), xs = r.map D.int ∧ ρ = [.d (.scr ns), .d (.int st), e] ∧ s' = s ∧ r.foldl (fun st c => (st * 40961 + c % 2147483029 + 77) % 2147483477) st = stirOf ns) ⟨ns, 10019, _, rfl, rfl, rfl, rfl⟩ ?_ ?_
  · rintro x r ρ s' ⟨r', st, e, h1, rfl, rfl, h2⟩
    cases r' with
    | nil => cases h1
    | cons c r' =>
      cases h1
      refine ⟨_, rfl, ?_⟩
      show Rm _ _ _
      walk_at "rm"
      exact ⟨r', _, _, rfl, rfl, rfl, h2⟩
  · rintro ρ s' ⟨r', st, e, h1, rfl, rfl, h2⟩
    cases r' with
    | cons c r' => cases h1
    | nil =>
      have h2 : st = stirOf ns := h2
      subst h2
      walk_at "rm"
      rw [cut']
      exact ⟨rfl, rfl⟩
theorem flat_ints : ∀ a : List Int, flatL (a.map D.int) = some (a.map V.int)
  | [] => rfl
  | x :: r => by
    show (scalV (.int x)).bind _ = _
    show (flatL (r.map D.int)).map _ = _
    rw [flat_ints r]
    rfl
theorem inV_ints (x : Int) (a : List Int) : inV (.int x) (a.map V.int) = decide (x ∈ a) := by
  unfold inV
  induction a with
  | nil => rfl
  | cons y r ih =>
    rw [List.map_cons, List.any_cons, ih]
    show ((y == x) || _) = _
    by_cases h : y = x
    · subst h; simp
    · have h2 : x ≠ y := fun e => h e.symm
      by_cases h3 : x ∈ r <;> simp [h, h2, h3]
theorem nin_ints (x : Int) (a : List Int) : ninD (.int x) (.lst (a.map D.int)) = some (.bl (!decide (x ∈ a))) := by
  have h : inB (.int x) (.lst (a.map D.int)) = some (inV (.int x) (a.map V.int)) := by
    show (match scalV (.int x), flatL (a.map D.int) with
      | some v, some vs => some (inV v vs)
      | _, _ => _) = _
    rw [flat_ints]
    rfl
  unfold ninD
  rw [h, inV_ints]
  rfl
/-- the place of x in a -/
def ixA (a : List Int) (x : Int) : Nat := a.findIdx fun y => y == x
theorem index_ints {x : Int} {a : List Int} (h : x ∈ a) : indexD (.lst (a.map D.int)) [.int x] = some (.int (ixA a x)) := by
  show (flatL (a.map D.int)).bind _ = _
  rw [flat_ints]
  have e1 : (a.map V.int).any (fun z => eqV z (.int x)) = true := by
    have := inV_ints x a
    unfold inV at this
    rw [this]
    simpa using h
  show (if (a.map V.int).any (fun z => eqV z (.int x)) = true then some (D.int ((a.map V.int).findIdx fun z => eqV z (.int x) : Nat)) else none) = _
  rw [if_pos e1]
  unfold ixA
  congr 3
  rw [List.findIdx_map]
  rfl
theorem of_ok {xs : List D} {s : FS} {Q : D → FS → Prop} (h0 : 0 < xs.length) (h1 : xs.length < 1073741824) (ok : s.Ok) (q : ∀ y s', y ∈ xs → s'.Ok → Q y s') : Rm (g_law_of [.feed, .lst xs]) s Q := by
  unfold g_law_of
  refine Rm.run rfl ?_
  unfold b_law_of
  show Rm (gRet _ [.d .feed, .d (.lst xs)]) s _
  walk_at "rm"
  refine Rm.draw (by omega) (by omega) ok fun k s' ok' k0 k1 => ?_
  walk_at "rm"
  have hk : k.toNat < xs.length := by omega
  refine Rm.lift (a := xs[k.toNat]) ?_ ?_
  · show atI xs k = _
    have := atI_ok (List.getElem?_eq_getElem hk)
    rw [show (0 + (k.toNat : Int)) = k by omega] at this
    exact this
  · walk_at "rm"
    exact q _ _ (List.getElem_mem hk) ok'
theorem ints_of {P : Int → Prop} : ∀ {ys : List D}, (∀ y, y ∈ ys → ∃ z, y = .int z ∧ P z) → ∃ row : List Int, ys = row.map D.int ∧ ∀ z, z ∈ row → P z
  | [], _ => ⟨[], rfl, fun z h => by simp at h⟩
  | y :: ys, h => by
    obtain ⟨z, rfl, hz⟩ := h y List.mem_cons_self
    obtain ⟨row, rfl, hr⟩ := ints_of (ys := ys) fun y hy => h y (List.mem_cons_of_mem _ hy)
    exact ⟨z :: row, rfl, fun x hx => by
      rcases List.mem_cons.mp hx with rfl | hx
      · exact hz
      · exact hr x hx⟩
theorem pln_int (n : Nat) (x : Int) (h : -(2 ^ 64) < x ∧ x < 2 ^ 64) : plnB (n + 1) (.int x) := by
  show x.natAbs.log2 < 1920
  have h1 : x.natAbs < 2 ^ 64 := by omega
  by_cases h0 : x.natAbs = 0
  · rw [h0]; decide
  · exact Nat.lt_trans ((Nat.log2_lt h0).mpr h1) (by decide)
end Q

set_option Elab.async false
set_option linter.all false
set_option maxRecDepth 100000
set_option maxHeartbeats 4000000
namespace Q
open PySem PySem.Spec PyProof.Rows L2 DL
/-- the letters -/
def alpha : List Str := (Str.ofString "abcdefghijklmnopqrstuvwxyz").cps.toList.map fun c => ⟨#[c]⟩
theorem alpha_len : alpha.length = 26 := by decide +kernel
theorem alpha_nodup : alpha.Nodup := by decide +kernel
theorem alpha_one : ∀ x, x ∈ alpha → x.length = 1 := fun x h => by
  unfold alpha at h
  obtain ⟨c, _, rfl⟩ := List.mem_map.mp h
  rfl
theorem signs_eq : signsD (Str.ofString "abcdefghijklmnopqrstuvwxyz") = alpha.map D.str := by
  unfold signsD alpha
  rw [List.map_map]
  rfl
theorem signs_ok (s : FS) : m_law_signs s = .ok (alpha.map D.str) s := by
  refine Rm.det ?_
  unfold m_law_signs
  refine Rm.quiet ?_
  show Rm (M.bind _ _) s _
  walk_at "rm"
  exact ⟨signs_eq, rfl⟩
theorem strs_strs : ∀ a : List Str, strsD (a.map D.str) = some a
  | [] => rfl
  | x :: r => by
    show (strsD (r.map D.str)).map _ = _
    rw [strs_strs r]
    rfl
theorem sorted_strs {a : List Str} (h : a.length < 64) : sortedD [.lst (a.map D.str)] = some (.lst ((sortS a).map D.str)) := by
  show (sortL (a.map D.str)).map D.lst = _
  unfold sortL
  rw [strs_strs]
  show (if a.length < 64 then some ((sortS a).map D.str) else none).map D.lst = _
  rw [if_pos h]
  rfl
theorem erase_map {α β : Type} (f : α → β) (l : List α) (i : Nat) : (l.map f).eraseIdx i = (l.eraseIdx i).map f := by
  simp [List.eraseIdx_eq_take_drop_succ, List.map_take, List.map_drop]
theorem erase_perm {α : Type} {l : List α} {i : Nat} (h : i < l.length) : (l[i] :: l.eraseIdx i).Perm l := by
  rw [List.eraseIdx_eq_take_drop_succ]
  refine List.Perm.trans List.perm_middle.symm ?_
  rw [← List.drop_eq_getElem_cons h, List.take_append_drop]
theorem some_ok {n : Int} {s : FS} {Q : D → FS → Prop} (h0 : 0 ≤ n) (h26 : n ≤ 26) (ok : s.Ok) (q : ∀ (ls : List Str) s', s'.Ok → ls.length = n.toNat → ls.Nodup → (∀ x, x ∈ ls → x ∈ alpha) → (ls.Pairwise fun a b => leS a b = true) → Q (.lst (ls.map D.str)) s') : Rm (g_law_some_letters [.feed, .int n]) s Q := by
  unfold g_law_some_letters
  refine Rm.run rfl ?_
  unfold b_law_some_letters
  show Rm (gSeq _ _ [.d .feed, .d (.int n), .no, .no, .no]) s _
  walk_at "rm"
  refine Rm.quiet (Rm.eq (signs_ok s) ?_)
  walk_at "rm"
  refine Rm.loop (fun xs ρ s' => ∃ (pool found : List Str) (e : EV), ρ = [.d .feed, .d (.int n), .ol (pool.map D.str), .ol (found.map D.str), e] ∧ s'.Ok ∧ (pool ++ found).Perm alpha ∧ xs.length + found.length = n.toNat) ⟨alpha, [], _, rfl, ok, by simp, by rw [rangeD_len]; rfl⟩ ?_ ?_
  · rintro x r ρ s' ⟨pool, found, e, rfl, ok', hp, hl⟩
    have hlen := hp.length_eq
    rw [List.length_append, alpha_len] at hlen
    rw [List.length_cons] at hl
    refine ⟨_, rfl, ?_⟩
    show Rm _ _ _
    walk_at "rm"
    refine Rm.vmt rfl ?_
    walk_at "rm"
    refine Rm.vmt rfl ?_
    walk_at "rm"
    refine Rm.draw (by rw [List.length_map]; omega) (by rw [List.length_map]; omega) ok' fun k s2 ok2 k0 k1 => ?_
    rw [List.length_map] at k1
    have hk : k.toNat < pool.length := by omega
    walk_at "rm"
    refine Rm.mtk rfl ?_
    refine Rm.lift (a := (.str pool[k.toNat], (pool.eraseIdx k.toNat).map D.str)) ?_ ?_
    · show (if 0 ≤ k ∧ k < 2 ^ 63 then ((pool.map D.str)[k.toNat]?).map _ else none) = _
      rw [if_pos ⟨k0, by omega⟩, List.getElem?_map, List.getElem?_eq_getElem hk]
      show some (_, (pool.map D.str).eraseIdx k.toNat) = _
      rw [erase_map]
    · walk_at "rm"
      refine Rm.mtk rfl ?_
      have hsz : sizeLine = 16777216 := rfl
      refine Rm.app (by rw [List.length_map]; omega) ?_
      refine ⟨pool.eraseIdx k.toNat, found ++ [pool[k.toNat]], .d x, ?_, ok2, ?_, ?_⟩
      · rw [List.map_append]; rfl
      · refine List.Perm.trans ?_ hp
        rw [← List.append_assoc]
        refine List.Perm.trans List.perm_append_comm ?_
        rw [← List.append_assoc]
        exact (erase_perm hk).append_right found
      · rw [List.length_append]
        show r.length + (found.length + 1) = _
        omega
  · rintro ρ s' ⟨pool, found, e, rfl, ok', hp, hl⟩
    have hlen := hp.length_eq
    rw [List.length_append, alpha_len] at hlen
    have hl : found.length = n.toNat := by simpa using hl
    have nd : (pool ++ found).Nodup := hp.nodup_iff.mpr alpha_nodup
    have nf : found.Nodup := (List.nodup_append.mp nd).2.1
    have mf : ∀ x, x ∈ found → x ∈ alpha := fun x hx => hp.mem_iff.mp (List.mem_append_right _ hx)
    walk_at "rm"
    refine Rm.lift (sorted_strs (by omega)) ?_
    walk_at "rm"
    exact q _ _ ok' (by rw [(sortS_perm found).length_eq]; exact hl) ((sortS_perm found).nodup_iff.mpr nf) (fun x hx => mf x ((sortS_perm found).mem_iff.mp hx)) (sortS_pair found)

end Q

set_option Elab.async false
set_option linter.all false
set_option maxRecDepth 100000
set_option maxHeartbeats 4000000
namespace Q
open PySem PySem.Spec PyProof.Rows L2 DL
/-- a side of a drawn shape -/
def Side (ls : List Str) (d : D) : Prop := (∃ l, l ∈ ls ∧ d = .str l) ∨ d = .int 1 ∨ d = .int 2 ∨ d = .int 3
theorem number_side_ok {s : FS} {Q : D → FS → Prop} (ok : s.Ok) (q : ∀ (d : D) s', s'.Ok → (d = .int 1 ∨ d = .int 2 ∨ d = .int 3) → Q d s') : Rm (g_law_number_side [.feed]) s Q := by
  unfold g_law_number_side
  refine Rm.run rfl ?_
  unfold b_law_number_side
  show Rm (gRet _ [.d .feed]) s _
  walk_at "rm"
  refine of_ok (by simp) (by simp) ok fun y s' hy ok' => ?_
  walk_at "rm"
  refine q _ _ ok' ?_
  simp only [List.mem_cons, List.not_mem_nil, or_false] at hy
  rcases hy with rfl | rfl | rfl | rfl | rfl | rfl | rfl <;> simp
theorem py_strs : ∀ a : List Str, pyL (a.map D.str) = some (a.map PyData.str)
  | [] => rfl
  | x :: r => by
    show (pyD (.str x)).bind _ = _
    show (pyL (r.map D.str)).map _ = _
    rw [py_strs r]
    rfl
theorem alpha_strOk : ∀ x, x ∈ alpha → PyData.strOk x = true := by decide +kernel
theorem lay_strs : ∀ a : List Str, (∀ x, x ∈ a → PyData.strOk x = true) → PyData.canLayAll0 (a.map PyData.str) = true
  | [], _ => by rw [List.map_nil, PyData.canLayAll0]
  | x :: r, h => by rw [List.map_cons, PyData.canLayAll0, lay_strs r fun y hy => h y (List.mem_cons_of_mem _ hy), PyData.canLay0, h x List.mem_cons_self]; rfl
theorem dep_strs : ∀ a : List Str, PyData.depthAll (a.map PyData.str) = 0
  | [] => by rw [List.map_nil, PyData.depthAll]
  | x :: r => by rw [List.map_cons, PyData.depthAll, dep_strs r, PyData.depth]; rfl
theorem shaped_strs {a : List Str} (h : ∀ x, x ∈ a → PyData.strOk x = true) : SeqAt.shaped (.list (a.map PyData.str)) = true := by
  unfold SeqAt.shaped
  rw [PyData.canLay0, lay_strs a h, PyData.depth, dep_strs]
  rfl
theorem ne_nil_strs {a : List Str} (h : ∀ x, x ∈ a → PyData.strOk x = true) : neD (.lst (a.map D.str)) (.lst []) = some (.bl (!a.isEmpty)) := by
  have e : eqB (.lst (a.map D.str)) (.lst []) = some a.isEmpty := by
    show (match pyD (.lst (a.map D.str)), pyD (.lst []) with
      | some p, some q => if SeqAt.shaped p = true ∧ SeqAt.shaped q = true then some (PyData.eqv p q) else none
      | _, _ => none) = _
    have e1 : pyD (.lst (a.map D.str)) = some (.list (a.map PyData.str)) := by
      show (pyL (a.map D.str)).map _ = _
      rw [py_strs]
      rfl
    have e2 : pyD (.lst []) = some (.list []) := rfl
    rw [e1, e2]
    show (if SeqAt.shaped (.list (a.map PyData.str)) = true ∧ SeqAt.shaped (.list []) = true then some (PyData.eqv (.list (a.map PyData.str)) (.list [])) else none) = _
    rw [if_pos ⟨shaped_strs h, shaped_strs (a := []) (fun _ h => by simp at h)⟩]
    cases a with
    | nil => rw [List.map_nil, PyData.eqv, PyData.eqvAll]; rfl
    | cons x r => rw [List.map_cons, PyData.eqv, PyData.eqvAll]; rfl
  unfold neD
  rw [e]
  rfl
theorem sides_ok {ls : List Str} {m : Int} {s : FS} {Q : D → FS → Prop} (hm : 0 ≤ m) (hm2 : m ≤ 1000) (hls : ls.length ≤ 1000) (hs : ∀ x, x ∈ ls → PyData.strOk x = true) (ok : s.Ok) (q : ∀ (xs : List D) s', s'.Ok → xs.length ≤ m.toNat → (∀ x, x ∈ xs → Side ls x) → Q (.tup xs) s') : Rm (g_law_sides [.feed, .lst (ls.map D.str), .int m]) s Q := by
  unfold g_law_sides
  refine Rm.run rfl ?_
  unfold b_law_sides
  have hsz : sizeLine = 16777216 := rfl
  show Rm (gSeq _ _ [.d .feed, .d (.lst (ls.map D.str)), .d (.int m), .no, .no]) s _
  walk_at "rm"
  refine Rm.draw (by omega) (by omega) ok fun k s1 ok1 k0 k1 => ?_
  walk_at "rm"
  refine Rm.loop (fun r ρ s' => ∃ (f : List D) (e : EV), ρ = [.d .feed, .d (.lst (ls.map D.str)), .d (.int m), .ol f, e] ∧ s'.Ok ∧ r.length + f.length ≤ m.toNat ∧ ∀ x, x ∈ f → Side ls x) ⟨[], _, rfl, ok1, by rw [rangeD_len]; simp; omega, fun x h => by simp at h⟩ ?_ ?_
  · rintro x r ρ s' ⟨f, e, rfl, ok', hl, hf⟩
    rw [List.length_cons] at hl
    have put : ∀ (d : D) (s2 : FS), s2.Ok → Side ls d → ∃ (f' : List D) (e' : EV), [EV.d .feed, .d (.lst (ls.map D.str)), .d (.int m), .ol (f ++ [d]), .d x] = [.d .feed, .d (.lst (ls.map D.str)), .d (.int m), .ol f', e'] ∧ s2.Ok ∧ r.length + f'.length ≤ m.toNat ∧ ∀ x, x ∈ f' → Side ls x := fun d s2 o2 hd => by
      refine ⟨f ++ [d], .d x, rfl, o2, by rw [List.length_append]; show r.length + (f.length + 1) ≤ _; omega, fun y hy => ?_⟩
      rcases List.mem_append.mp hy with h | h
      · exact hf y h
      · rw [List.mem_singleton] at h; subst h; exact hd
    have num : ∀ (s2 : FS), s2.Ok → Rm (gDrop (vMt 3 moAppend (lvCons (vMask (dCall g_law_number_side (lCons (dVar 0) lNil))) lvNil)) [EV.d .feed, .d (.lst (ls.map D.str)), .d (.int m), .ol f, .d x]) s2 (fun p s => p.1 = .nx ∧ ∃ (f' : List D) (e' : EV), p.2 = [.d .feed, .d (.lst (ls.map D.str)), .d (.int m), .ol f', e'] ∧ s.Ok ∧ r.length + f'.length ≤ m.toNat ∧ ∀ x, x ∈ f' → Side ls x) := fun s2 o2 => by
      walk_at "rm"
      refine Rm.vmt rfl ?_
      walk_at "rm"
      refine number_side_ok o2 fun d s3 o3 hd => ?_
      walk_at "rm"
      refine Rm.mtk rfl ?_
      refine Rm.app (by omega) ?_
      exact ⟨rfl, put d s3 o3 (.inr hd)⟩
    have fin : ∀ (g : Sts → M (Fl × Sts)) (ρ : Sts) (s2 : FS), Rm (g ρ) s2 (fun p s => p.1 = .nx ∧ ∃ (f' : List D) (e' : EV), p.2 = [.d .feed, .d (.lst (ls.map D.str)), .d (.int m), .ol f', e'] ∧ s.Ok ∧ r.length + f'.length ≤ m.toNat ∧ ∀ x, x ∈ f' → Side ls x) → ∀ Q' : Fl × Sts → FS → Prop, (∀ (ρ' : Sts) (s : FS), (∃ (f' : List D) (e' : EV), ρ' = [.d .feed, .d (.lst (ls.map D.str)), .d (.int m), .ol f', e'] ∧ s.Ok ∧ r.length + f'.length ≤ m.toNat ∧ ∀ x, x ∈ f' → Side ls x) → Q' (.nx, ρ') s) → Rm (g ρ) s2 Q' := fun g ρ s2 h Q' hq => h.mono fun p s hp => by
      obtain ⟨k, ρ'⟩ := p
      obtain ⟨h1, h2⟩ := hp
      have h1 : k = .nx := h1
      subst h1
      exact hq _ _ h2
    refine ⟨_, rfl, ?_⟩
    show Rm _ _ _
    refine Rm.cond ?_
    walk_at "rm"
    refine Rm.lift (ne_nil_strs hs) ?_
    walk_at "rm"
    refine Rm.ite (fun hk => ?_) (fun hk => ?_)
    · have hne : 0 < ls.length := by
        cases ls with
        | nil => simp at hk
        | cons _ _ => simp
      refine Rm.cmp ?_
      walk_at "rm"
      refine Rm.draw (by decide) (by decide) ok' fun k2 s2 ok2 _ _ => ?_
      walk_at "rm"
      refine Rm.ite (fun hk => ?_) (fun hk => ?_)
      · walk_at "rm"
        refine Rm.vmt rfl ?_
        walk_at "rm"
        refine of_ok (by rw [List.length_map]; exact hne) (by rw [List.length_map]; omega) ok2 fun y s3 hy ok3 => ?_
        walk_at "rm"
        refine Rm.mtk rfl ?_
        refine Rm.app (by omega) ?_
        obtain ⟨l, hl2, rfl⟩ := List.mem_map.mp hy
        exact put _ s3 ok3 (.inl ⟨l, hl2, rfl⟩)
      · exact fin _ _ _ (num _ ok2) _ fun ρ' s h => h
    · refine Rm.pure ?_
      refine Rm.ifF rfl ?_
      exact fin _ _ _ (num _ ok') _ fun ρ' s h => h
  · rintro ρ s' ⟨f, e, rfl, ok', hl, hf⟩
    walk_at "rm"
    exact q _ _ ok' (by simpa using hl) hf

end Q

set_option Elab.async false
set_option linter.all false
set_option maxRecDepth 100000
set_option maxHeartbeats 4000000
namespace Q
open PySem PySem.Spec PyProof.Rows L2 DL
/-- a side's size by a table -/
def valT (kvs : List (Key × D)) : D → Option Int
  | .int i => some i
  | .str l => match lookD kvs (.inr l) with
    | some (.int v) => some v
    | _ => none
  | _ => none
theorem look_of {kvs : List (Key × D)} {l : Str} {v : Int} (h : valT kvs (.str l) = some v) : lookD kvs (.inr l) = some (.int v) := by
  unfold valT at h
  dsimp only at h
  split at h
  · rename_i q
    cases h
    exact q
  · cases h
theorem size_ok {kvs : List (Key × D)} {d : D} {v : Int} (s : FS) (h : valT kvs d = some v) : g_size_of [d, .dic kvs] s = .ok (.int v) s := by
  refine Rm.det ?_
  unfold g_size_of
  refine Rm.run rfl ?_
  unfold b_size_of
  show Rm (gRet _ [.d d, .d (.dic kvs)]) s _
  cases d with
  | int i => cases h; walk_at "rm"; exact ⟨rfl, rfl⟩
  | str l =>
    walk_at "rm"
    refine Rm.lift (show ixD (.dic kvs) (.str l) = some (.int v) from look_of h) ?_
    walk_at "rm"
    exact ⟨rfl, rfl⟩
  | _ => cases h
theorem lsize_ok {kvs : List (Key × D)} {d : D} {v : Int} (s : FS) (h : valT kvs d = some v) : g_law_size [d, .dic kvs] s = .ok (.int v) s := by
  refine Rm.det ?_
  unfold g_law_size
  refine Rm.run rfl ?_
  unfold b_law_size
  show Rm (gRet _ [.d d, .d (.dic kvs)]) s _
  cases d with
  | int i => cases h; walk_at "rm"; exact ⟨rfl, rfl⟩
  | str l =>
    walk_at "rm"
    refine Rm.lift (show ixD (.dic kvs) (.str l) = some (.int v) from look_of h) ?_
    walk_at "rm"
    exact ⟨rfl, rfl⟩
  | _ => cases h
def isOne : D → Bool
  | .int i => decide (i = 1)
  | _ => false
/-- two sides that meet; z where they clash -/
def metS (z x y : D) (a b : Int) : D := if a = b then (if isOne x = true then y else x) else if a = 1 then y else if b = 1 then x else z
theorem one_eq {kvs : List (Key × D)} {x : D} {a : Int} (h : valT kvs x = some a) : eqD x (.int 1) = some (.bl (isOne x)) := by
  cases x with
  | int i => exact eqD_int i 1
  | str l =>
    show (if scal (.str l) (.int 1) = true then some (decide ((V.str l) = .int 1)) else eqB.eqP (.str l) (.int 1)).map D.bl = _
    rw [if_pos (show scal (.str l) (.int 1) = true from rfl)]
    show some (D.bl (decide (V.str l = V.int 1))) = _
    rw [decide_eq_false (fun e => by cases e)]
    rfl
  | _ => cases h
theorem met_ok {kvs : List (Key × D)} {x y : D} {a b : Int} (s : FS) (hx : valT kvs x = some a) (hy : valT kvs y = some b) : g_met [x, y, .dic kvs] s = .ok (metS .non x y a b) s := by
  refine Rm.det ?_
  unfold g_met
  refine Rm.run rfl ?_
  unfold b_met
  show Rm (gSeq _ _ [.d x, .d y, .d (.dic kvs), .no, .no]) s _
  refine Rm.seq1 (ρ' := [.d x, .d y, .d (.dic kvs), .no, .no]) ?_ ?_
  · cases x <;> first | cases hx | skip
    all_goals (cases y <;> first | cases hy | skip)
    all_goals (walk_at "rm"; exact ⟨rfl, rfl⟩)
  walk_at "rm"
  refine Rm.eq (size_ok s hx) ?_
  walk_at "rm"
  refine Rm.eq (size_ok s hy) ?_
  walk_at "rm"
  refine Rm.ite (fun hk => ?_) (fun hk => ?_)
  · have hk : a = b := of_decide_eq_true hk
    walk_at "rm"
    refine Rm.lift (one_eq hx) ?_
    walk_at "rm"
    refine Rm.ite (fun h1 => ?_) (fun h1 => ?_)
    · walk_at "rm"
      refine ⟨?_, rfl⟩
      unfold metS
      rw [if_pos hk, if_pos h1]
    · walk_at "rm"
      refine ⟨?_, rfl⟩
      unfold metS
      rw [if_pos hk, if_neg (by rw [h1]; decide)]
  · have hk : ¬ a = b := of_decide_eq_false hk
    walk_at "rm"
    refine Rm.ite (fun h1 => ?_) (fun h1 => ?_)
    · have h1 : a = 1 := of_decide_eq_true h1
      walk_at "rm"
      refine ⟨?_, rfl⟩
      unfold metS
      rw [if_neg hk, if_pos h1]
    · have h1 : ¬ a = 1 := of_decide_eq_false h1
      walk_at "rm"
      refine Rm.ite (fun h2 => ?_) (fun h2 => ?_)
      · have h2 : b = 1 := of_decide_eq_true h2
        walk_at "rm"
        refine ⟨?_, rfl⟩
        unfold metS
        rw [if_neg hk, if_neg h1, if_pos h2]
      · have h2 : ¬ b = 1 := of_decide_eq_false h2
        walk_at "rm"
        refine ⟨?_, rfl⟩
        unfold metS
        rw [if_neg hk, if_neg h1, if_neg h2]

theorem meet_ok {kvs : List (Key × D)} {x y : D} {a b : Int} (s : FS) (hx : valT kvs x = some a) (hy : valT kvs y = some b) : g_law_meet [x, y, .dic kvs] s = .ok (metS (.int 0) x y a b) s := by
  refine Rm.det ?_
  unfold g_law_meet
  refine Rm.run rfl ?_
  unfold b_law_meet
  show Rm (gSeq _ _ [.d x, .d y, .d (.dic kvs), .no, .no]) s _
  refine Rm.seq1 (ρ' := [.d x, .d y, .d (.dic kvs), .no, .no]) ?_ ?_
  · cases x <;> first | cases hx | skip
    all_goals (cases y <;> first | cases hy | skip)
    all_goals (walk_at "rm"; exact ⟨rfl, rfl⟩)
  walk_at "rm"
  refine Rm.eq (lsize_ok s hx) ?_
  walk_at "rm"
  refine Rm.eq (lsize_ok s hy) ?_
  walk_at "rm"
  refine Rm.ite (fun hk => ?_) (fun hk => ?_)
  · have hk : a = b := of_decide_eq_true hk
    walk_at "rm"
    refine Rm.lift (one_eq hx) ?_
    walk_at "rm"
    refine Rm.ite (fun h1 => ?_) (fun h1 => ?_)
    · walk_at "rm"
      refine ⟨?_, rfl⟩
      unfold metS
      rw [if_pos hk, if_pos h1]
    · walk_at "rm"
      refine ⟨?_, rfl⟩
      unfold metS
      rw [if_pos hk, if_neg (by rw [h1]; decide)]
  · have hk : ¬ a = b := of_decide_eq_false hk
    walk_at "rm"
    refine Rm.ite (fun h1 => ?_) (fun h1 => ?_)
    · have h1 : a = 1 := of_decide_eq_true h1
      walk_at "rm"
      refine ⟨?_, rfl⟩
      unfold metS
      rw [if_neg hk, if_pos h1]
    · have h1 : ¬ a = 1 := of_decide_eq_false h1
      walk_at "rm"
      refine Rm.ite (fun h2 => ?_) (fun h2 => ?_)
      · have h2 : b = 1 := of_decide_eq_true h2
        walk_at "rm"
        refine ⟨?_, rfl⟩
        unfold metS
        rw [if_neg hk, if_neg h1, if_pos h2]
      · have h2 : ¬ b = 1 := of_decide_eq_false h2
        walk_at "rm"
        refine ⟨?_, rfl⟩
        unfold metS
        rw [if_neg hk, if_neg h1, if_neg h2]
/-- one of the two is not there -/
theorem met_none {kvs : List (Key × D)} {y : D} {b : Int} (s : FS) (hy : valT kvs y = some b) : g_met [.non, y, .dic kvs] s = .ok y s ∧ g_met [y, .non, .dic kvs] s = .ok y s ∧ g_law_meet [.non, y, .dic kvs] s = .ok y s ∧ g_law_meet [y, .non, .dic kvs] s = .ok y s := by
  refine ⟨Rm.det ?_, Rm.det ?_, Rm.det ?_, Rm.det ?_⟩
  · unfold g_met
    refine Rm.run rfl ?_
    unfold b_met
    show Rm (gSeq _ _ [.d .non, .d y, .d (.dic kvs), .no, .no]) s _
    walk_at "rm"
    exact ⟨rfl, rfl⟩
  · unfold g_met
    refine Rm.run rfl ?_
    unfold b_met
    show Rm (gSeq _ _ [.d y, .d .non, .d (.dic kvs), .no, .no]) s _
    cases y <;> first | cases hy | skip
    all_goals (walk_at "rm"; exact ⟨rfl, rfl⟩)
  · unfold g_law_meet
    refine Rm.run rfl ?_
    unfold b_law_meet
    show Rm (gSeq _ _ [.d .non, .d y, .d (.dic kvs), .no, .no]) s _
    walk_at "rm"
    exact ⟨rfl, rfl⟩
  · unfold g_law_meet
    refine Rm.run rfl ?_
    unfold b_law_meet
    show Rm (gSeq _ _ [.d y, .d .non, .d (.dic kvs), .no, .no]) s _
    cases y <;> first | cases hy | skip
    all_goals (walk_at "rm"; exact ⟨rfl, rfl⟩)
end Q

set_option Elab.async false
set_option linter.all false
set_option maxRecDepth 100000
set_option maxHeartbeats 4000000
namespace Q
open PySem PySem.Spec PyProof.Rows L2 DL
theorem Rm.lstar {ρ : Env'} {s : FS} {f1 : Env' → M D} {fl : Env' → M (List D)} {QL : List D → FS → Prop} (h : Rm (f1 ρ) s fun x s => Rm (M.lift (seqD x)) s fun xs s => Rm (fl ρ) s fun ys s => QL (xs ++ ys) s) : Rm (lStar f1 fl ρ) s QL :=
  DL.Rm.bind (h.mono fun _ _ h => DL.Rm.bind (h.mono fun _ _ h => DL.Rm.bindP h))
theorem Rm.mkl {xs : List D} {s : FS} {Q : D → FS → Prop} (h : xs.length ≤ sizeLine) (q : Q (.lst xs) s) : Rm (M.lift (mkLst xs)) s Q := DL.Rm.lift (if_pos h) q
theorem flat_rep (k : Nat) : (List.replicate k [D.non]).flatten = List.replicate k D.non := by
  induction k with
  | zero => rfl
  | succ k ih => rw [List.replicate_succ, List.flatten_cons, ih, List.replicate_succ]; rfl
theorem mul_non {k : Int} (h0 : 0 ≤ k) (h1 : k ≤ 1000) : mulD (.lst [.non]) (.int k) = some (.lst (List.replicate k.toNat .non)) := by
  have hsz : sizeLine = 16777216 := rfl
  rw [← flat_rep]
  exact if_pos ⟨by omega, by omega, by show 1 * k.toNat ≤ _; omega⟩
def padN (n : Nat) (xs : List D) : List D := List.replicate (n - xs.length) .non ++ xs
theorem padN_len {n : Nat} {xs : List D} (h : xs.length ≤ n) : (padN n xs).length = n := by
  unfold padN
  rw [List.length_append, List.length_replicate]
  omega
theorem max_nat (a b : Nat) : (if (b : Int) > (a : Int) then (b : Int) else (a : Int)) = ((max a b : Nat) : Int) := by
  split <;> omega
theorem aligned_ok {xs ys : List D} (s : FS) (hx : xs.length ≤ 100) (hy : ys.length ≤ 100) : g_aligned [.tup xs, .tup ys] s = .ok (.lst (zipD (padN (max xs.length ys.length) xs) (padN (max xs.length ys.length) ys))) s := by
  have hsz : sizeLine = 16777216 := rfl
  refine DL.Rm.det ?_
  unfold g_aligned
  refine DL.Rm.run rfl ?_
  unfold b_aligned
  show Rm (gSeq _ _ [.d (.tup xs), .d (.tup ys), .no, .no, .no]) s _
  refine DL.Rm.seq1 (ρ' := [.d (.tup xs), .d (.tup ys), .d (.int ((max xs.length ys.length : Nat) : Int)), .no, .no]) ?_ ?_
  · walk_at "rm"
    rw [max_nat]
    exact ⟨rfl, rfl⟩
  have e1 : (((max xs.length ys.length : Nat) : Int) - (xs.length : Int)).toNat = max xs.length ys.length - xs.length := by omega
  have e2 : (((max xs.length ys.length : Nat) : Int) - (ys.length : Int)).toNat = max xs.length ys.length - ys.length := by omega
  walk_at "rm"
  refine DL.Rm.lift (mul_non (by omega) (by omega)) ?_
  walk_at "rm"
  refine DL.Rm.lift (mul_non (by omega) (by omega)) ?_
  rw [e1, e2]
  walk_at "rm"
  refine Q.Rm.lstar ?_
  walk_at "rm"
  refine Q.Rm.lstar ?_
  walk_at "rm"
  rw [List.append_nil]
  refine Q.Rm.mkl (by rw [List.length_append, List.length_replicate]; omega) ?_
  walk_at "rm"
  refine Q.Rm.lstar ?_
  walk_at "rm"
  refine Q.Rm.lstar ?_
  walk_at "rm"
  rw [List.append_nil]
  refine Q.Rm.mkl (by rw [List.length_append, List.length_replicate]; omega) ?_
  walk_at "rm"
  exact ⟨rfl, rfl⟩

end Q

set_option Elab.async false
set_option linter.all false
set_option maxRecDepth 100000
set_option maxHeartbeats 4000000
namespace Q
open PySem PySem.Spec PyProof.Rows L2 DL
theorem zip_fwd : ∀ {xs ys : List D} {j : Nat} {x y : D}, xs[j]? = some x → ys[j]? = some y → (zipD xs ys)[j]? = some (.tup [x, y])
  | [], _, j, _, _, h, _ => by simp at h
  | _ :: _, [], j, _, _, _, h => by simp at h
  | a :: xs, b :: ys, 0, x, y, h1, h2 => by simp at h1 h2; subst h1 h2; rfl
  | a :: xs, b :: ys, j + 1, x, y, h1, h2 => by
    have := zip_fwd (xs := xs) (ys := ys) (j := j) (x := x) (y := y) (by simpa using h1) (by simpa using h2)
    simpa [zipD] using this
def pairF (L R : List D) : D → D
  | .int i => .tup [(L[i.toNat]?).getD .non, (R[i.toNat]?).getD .non]
  | d => d
theorem pair_map {L R : List D} {n : Nat} (hL : L.length = n) (hR : R.length = n) : (rangeD 0 n).map (pairF L R) = zipD L R := by
  refine List.ext_getElem? fun j => ?_
  rw [List.getElem?_map]
  by_cases hj : j < n
  · have e1 : L[j]? = some L[j] := List.getElem?_eq_getElem (by omega)
    have e2 : R[j]? = some R[j] := List.getElem?_eq_getElem (by omega)
    rw [zip_fwd e1 e2]
    have e3 : (rangeD 0 n)[j]? = some (.int (0 + (j : Int))) := by
      unfold rangeD
      rw [List.getElem?_map, List.getElem?_range hj]
      rfl
    rw [e3]
    show some (D.tup [(L[(0 + (j : Int)).toNat]?).getD .non, (R[(0 + (j : Int)).toNat]?).getD .non]) = _
    rw [show (0 + (j : Int)).toNat = j by omega, e1, e2]
    rfl
  · have e1 : (rangeD 0 n)[j]? = none := by
      rw [List.getElem?_eq_none_iff, rangeD_len]
      omega
    have e2 : (zipD L R)[j]? = none := by
      rw [List.getElem?_eq_none_iff, zipD_lenA]
      omega
    rw [e1, e2]
    rfl
theorem pairs_ok {xs ys : List D} (s : FS) (hx : xs.length ≤ 100) (hy : ys.length ≤ 100) : g_law_pairs [.tup xs, .tup ys] s = .ok (.lst (zipD (padN (max xs.length ys.length) xs) (padN (max xs.length ys.length) ys))) s := by
  have hsz : sizeLine = 16777216 := rfl
  have lL := padN_len (n := max xs.length ys.length) (xs := xs) (by omega)
  have lR := padN_len (n := max xs.length ys.length) (xs := ys) (by omega)
  refine DL.Rm.det ?_
  unfold g_law_pairs
  refine DL.Rm.run rfl ?_
  unfold b_law_pairs
  show Rm (gSeq _ _ [.d (.tup xs), .d (.tup ys), .no, .no, .no, .no]) s _
  refine DL.Rm.seq1 (ρ' := [.d (.tup xs), .d (.tup ys), .d (.int ((max xs.length ys.length : Nat) : Int)), .no, .no, .no]) ?_ ?_
  · walk_at "rm"
    rw [max_nat]
    exact ⟨rfl, rfl⟩
  have e1 : (((max xs.length ys.length : Nat) : Int) - (xs.length : Int)).toNat = max xs.length ys.length - xs.length := by omega
  have e2 : (((max xs.length ys.length : Nat) : Int) - (ys.length : Int)).toNat = max xs.length ys.length - ys.length := by omega
  refine DL.Rm.seq1 (ρ' := [.d (.tup xs), .d (.tup ys), .d (.int ((max xs.length ys.length : Nat) : Int)), .d (.lst (padN (max xs.length ys.length) xs)), .no, .no]) ?_ ?_
  · walk_at "rm"
    refine DL.Rm.lift (mul_non (by omega) (by omega)) ?_
    rw [e1]
    walk_at "rm"
    · rw [List.length_replicate]; omega
    walk_at "rm"
    exact ⟨rfl, rfl⟩
  refine DL.Rm.seq1 (ρ' := [.d (.tup xs), .d (.tup ys), .d (.int ((max xs.length ys.length : Nat) : Int)), .d (.lst (padN (max xs.length ys.length) xs)), .d (.lst (padN (max xs.length ys.length) ys)), .no]) ?_ ?_
  · walk_at "rm"
    refine DL.Rm.lift (mul_non (by omega) (by omega)) ?_
    rw [e2]
    walk_at "rm"
    · rw [List.length_replicate]; omega
    walk_at "rm"
    exact ⟨rfl, rfl⟩
  generalize hn : max xs.length ys.length = n at lL lR
  walk_at "rm"
  rw [Int.toNat_natCast]
  refine ⟨by rw [rangeD_len]; omega, DL.Rm.lcMap (pairF (padN n xs) (padN n ys)) (fun d hm => ⟨_, rfl, ?_⟩) ?_⟩
  · obtain ⟨i, hi, rfl⟩ := rangeD_mem hm
    refine DL.Rm.det ?_
    walk_at "rm"
    refine DL.Rm.lift (show ixD (.lst (padN n xs)) (.int (0 + (i : Int))) = some (padN n xs)[i] from atI_ok (List.getElem?_eq_getElem (by omega))) ?_
    walk_at "rm"
    refine DL.Rm.lift (show ixD (.lst (padN n ys)) (.int (0 + (i : Int))) = some (padN n ys)[i] from atI_ok (List.getElem?_eq_getElem (by omega))) ?_
    walk_at "rm"
    refine ⟨?_, rfl⟩
    show _ = D.tup [((padN n xs)[(0 + (i : Int)).toNat]?).getD .non, ((padN n ys)[(0 + (i : Int)).toNat]?).getD .non]
    rw [show (0 + (i : Int)).toNat = i by omega, List.getElem?_eq_getElem (by omega), List.getElem?_eq_getElem (by omega)]
    rfl
  · rw [pair_map lL lR]
    walk_at "rm"
    exact ⟨rfl, rfl⟩

end Q

set_option Elab.async false
set_option linter.all false
set_option maxRecDepth 100000
set_option maxHeartbeats 4000000
namespace Q
open PySem PySem.Spec PyProof.Rows L2 DL
/-- two sides of a pair that may lack one -/
def mmF (z : D) (kvs : List (Key × D)) : D → D → D
  | .non, y => y
  | x, .non => x
  | x, y => metS z x y ((valT kvs x).getD 0) ((valT kvs y).getD 0)
/-- a pair that is asked -/
def PairOk (kvs : List (Key × D)) (x y : D) : Prop := (x = .non ∧ ∃ b, valT kvs y = some b) ∨ (y = .non ∧ ∃ a, valT kvs x = some a) ∨ ((∃ a, valT kvs x = some a) ∧ ∃ b, valT kvs y = some b)
theorem mm_both {z : D} {kvs : List (Key × D)} {x y : D} {a b : Int} (hx : valT kvs x = some a) (hy : valT kvs y = some b) : mmF z kvs x y = metS z x y a b := by
  have e : mmF z kvs x y = metS z x y ((valT kvs x).getD 0) ((valT kvs y).getD 0) := by
    cases x <;> first | (cases hx; done) | skip
    all_goals (cases y <;> first | (cases hy; done) | rfl)
  rw [e, hx, hy]
  rfl
theorem mm_right {z : D} {kvs : List (Key × D)} {x : D} {a : Int} (hx : valT kvs x = some a) : mmF z kvs x .non = x := by
  cases x <;> first | (cases hx; done) | rfl
theorem met_mm {kvs : List (Key × D)} {x y : D} (s : FS) (h : PairOk kvs x y) : g_met [x, y, .dic kvs] s = .ok (mmF .non kvs x y) s ∧ g_law_meet [x, y, .dic kvs] s = .ok (mmF (.int 0) kvs x y) s := by
  rcases h with ⟨rfl, b, hb⟩ | ⟨rfl, a, ha⟩ | ⟨⟨a, ha⟩, b, hb⟩
  · exact ⟨(met_none s hb).1, (met_none s hb).2.2.1⟩
  · rw [mm_right ha, mm_right ha]
    exact ⟨(met_none s ha).2.1, (met_none s ha).2.2.2⟩
  · rw [mm_both ha hb, mm_both ha hb]
    exact ⟨met_ok s ha hb, meet_ok s ha hb⟩
/-- a side is a number from 1 or a letter -/
def SideV (kvs : List (Key × D)) (x : D) : Prop := ∃ a, valT kvs x = some a ∧ 1 ≤ a
/-- where the two readings differ: a clash -/
theorem mm_cases {kvs : List (Key × D)} {x y : D} (h : (x = .non ∧ SideV kvs y) ∨ (y = .non ∧ SideV kvs x) ∨ (SideV kvs x ∧ SideV kvs y)) : (mmF .non kvs x y = .non ∧ mmF (.int 0) kvs x y = .int 0) ∨ (mmF .non kvs x y = mmF (.int 0) kvs x y ∧ SideV kvs (mmF (.int 0) kvs x y)) := by
  rcases h with ⟨rfl, hy⟩ | ⟨rfl, hx⟩ | ⟨hx, hy⟩
  · exact .inr ⟨rfl, hy⟩
  · obtain ⟨a, ha, _⟩ := id hx
    rw [mm_right ha, mm_right ha]
    exact .inr ⟨rfl, hx⟩
  · obtain ⟨a, ha, _⟩ := id hx
    obtain ⟨b, hb, _⟩ := id hy
    rw [mm_both ha hb, mm_both ha hb]
    unfold metS
    split
    · split
      · exact .inr ⟨rfl, hy⟩
      · exact .inr ⟨rfl, hx⟩
    · split
      · exact .inr ⟨rfl, hy⟩
      · split
        · exact .inr ⟨rfl, hx⟩
        · exact .inl ⟨rfl, rfl⟩

end Q

set_option Elab.async false
set_option linter.all false
set_option maxRecDepth 100000
set_option maxHeartbeats 4000000
namespace Q
open PySem PySem.Spec PyProof.Rows L2 DL
def isZero : D → Bool
  | .int i => decide (i = 0)
  | _ => false
theorem side_cases {kvs : List (Key × D)} {d : D} (h : SideV kvs d) : (∃ i : Int, d = .int i ∧ 1 ≤ i) ∨ ∃ l, d = .str l := by
  obtain ⟨a, ha, h1⟩ := h
  cases d with
  | int i => cases ha; exact .inl ⟨_, rfl, h1⟩
  | str l => exact .inr ⟨l, rfl⟩
  | _ => cases ha
theorem flat_sides {kvs : List (Key × D)} : ∀ {l : List D}, (∀ d, d ∈ l → d = .non ∨ d = .int 0 ∨ SideV kvs d) → ∃ vs, flatL l = some vs ∧ (vs.any fun y => eqV y .non) = l.any isNon ∧ (vs.any fun y => eqV y (.int 0)) = l.any isZero
  | [], _ => ⟨[], rfl, rfl, rfl⟩
  | d :: l, h => by
    obtain ⟨vs, h1, h2, h3⟩ := flat_sides (l := l) fun x hx => h x (List.mem_cons_of_mem _ hx)
    have one : ∃ v, scalV d = some v ∧ eqV v .non = isNon d ∧ eqV v (.int 0) = isZero d := by
      rcases h d List.mem_cons_self with rfl | rfl | hs
      · exact ⟨.non, rfl, rfl, rfl⟩
      · exact ⟨.int 0, rfl, rfl, rfl⟩
      · rcases side_cases hs with ⟨i, rfl, hi⟩ | ⟨l, rfl⟩
        · refine ⟨.int i, rfl, rfl, ?_⟩
          show (i == 0) = decide (i = 0)
          rfl
        · exact ⟨.str l, rfl, rfl, rfl⟩
    obtain ⟨v, e1, e2, e3⟩ := one
    refine ⟨v :: vs, ?_, ?_, ?_⟩
    · show (scalV d).bind _ = _
      rw [e1]
      show (flatL l).map _ = _
      rw [h1]
      rfl
    · rw [List.any_cons, List.any_cons, e2, h2]
    · rw [List.any_cons, List.any_cons, e3, h3]
theorem in_non {kvs : List (Key × D)} {l : List D} (h : ∀ d, d ∈ l → d = .non ∨ d = .int 0 ∨ SideV kvs d) : inD .non (.lst l) = some (.bl (l.any isNon)) := by
  obtain ⟨vs, h1, h2, _⟩ := flat_sides h
  have e : inB .non (.lst l) = some (inV .non vs) := by
    show (match scalV .non, flatL l with
      | some v, some vs => some (inV v vs)
      | _, _ => _) = _
    rw [h1]
    rfl
  unfold inD
  rw [e]
  unfold inV
  rw [h2]
  rfl
theorem in_zero {kvs : List (Key × D)} {l : List D} (h : ∀ d, d ∈ l → d = .non ∨ d = .int 0 ∨ SideV kvs d) : inD (.int 0) (.lst l) = some (.bl (l.any isZero)) := by
  obtain ⟨vs, h1, _, h3⟩ := flat_sides h
  have e : inB (.int 0) (.lst l) = some (inV (.int 0) vs) := by
    show (match scalV (.int 0), flatL l with
      | some v, some vs => some (inV v vs)
      | _, _ => _) = _
    rw [h1]
    rfl
  unfold inD
  rw [e]
  unfold inV
  rw [h3]
  rfl

end Q

set_option Elab.async false
set_option linter.all false
set_option maxRecDepth 100000
set_option maxHeartbeats 4000000
namespace Q
open PySem PySem.Spec PyProof.Rows L2 DL
/-- a row of pairs that is asked -/
def RowOk (kvs : List (Key × D)) (ps : List (D × D)) : Prop := ∀ p, p ∈ ps → (p.1 = .non ∧ SideV kvs p.2) ∨ (p.2 = .non ∧ SideV kvs p.1) ∨ (SideV kvs p.1 ∧ SideV kvs p.2)
theorem row_pair {kvs : List (Key × D)} {x y : D} (h : (x = .non ∧ SideV kvs y) ∨ (y = .non ∧ SideV kvs x) ∨ (SideV kvs x ∧ SideV kvs y)) : PairOk kvs x y := by
  rcases h with ⟨e, b, hb, _⟩ | ⟨e, a, ha, _⟩ | ⟨⟨a, ha, _⟩, b, hb, _⟩
  · exact .inl ⟨e, b, hb⟩
  · exact .inr (.inl ⟨e, a, ha⟩)
  · exact .inr (.inr ⟨⟨a, ha⟩, b, hb⟩)
def rowD (ps : List (D × D)) : List D := ps.map fun p => .tup [p.1, p.2]
def mmR (z : D) (kvs : List (Key × D)) (ps : List (D × D)) : List D := ps.map fun p => mmF z kvs p.1 p.2
def mmG (z : D) (kvs : List (Key × D)) : D → D
  | .tup [x, y] => mmF z kvs x y
  | d => d
theorem mmG_row (z : D) (kvs : List (Key × D)) (ps : List (D × D)) : (rowD ps).map (mmG z kvs) = mmR z kvs ps := by
  unfold rowD mmR
  rw [List.map_map]
  rfl
theorem side_not {kvs : List (Key × D)} {d : D} (h : SideV kvs d) : isNon d = false ∧ isZero d = false := by
  rcases side_cases h with ⟨i, rfl, hi⟩ | ⟨l, rfl⟩
  · exact ⟨rfl, decide_eq_false (by omega)⟩
  · exact ⟨rfl, rfl⟩
theorem clash_same {kvs : List (Key × D)} : ∀ {ps : List (D × D)}, RowOk kvs ps → (mmR .non kvs ps).any isNon = (mmR (.int 0) kvs ps).any isZero ∧ ((mmR (.int 0) kvs ps).any isZero = false → mmR .non kvs ps = mmR (.int 0) kvs ps ∧ ∀ d, d ∈ mmR (.int 0) kvs ps → SideV kvs d)
  | [], _ => ⟨rfl, fun _ => ⟨rfl, fun d h => by simp [mmR] at h⟩⟩
  | p :: ps, h => by
    obtain ⟨i1, i2⟩ := clash_same (ps := ps) fun q hq => h q (List.mem_cons_of_mem _ hq)
    show (isNon (mmF .non kvs p.1 p.2) || _) = (isZero (mmF (.int 0) kvs p.1 p.2) || _) ∧ ((isZero (mmF (.int 0) kvs p.1 p.2) || _) = false → (mmF .non kvs p.1 p.2 :: mmR .non kvs ps) = (mmF (.int 0) kvs p.1 p.2 :: mmR (.int 0) kvs ps) ∧ ∀ d, d ∈ (mmF (.int 0) kvs p.1 p.2 :: mmR (.int 0) kvs ps) → SideV kvs d)
    rcases mm_cases (h p List.mem_cons_self) with ⟨e1, e2⟩ | ⟨e1, e2⟩
    · rw [e1, e2]
      exact ⟨rfl, fun z => by cases z⟩
    · rw [e1, (side_not e2).1, (side_not e2).2]
      refine ⟨by rw [Bool.false_or, Bool.false_or]; exact i1, fun z => ?_⟩
      rw [Bool.false_or] at z
      obtain ⟨j1, j2⟩ := i2 z
      refine ⟨by rw [j1], fun d hd => ?_⟩
      rcases List.mem_cons.mp hd with rfl | hd
      · exact e2
      · exact j2 d hd
theorem mmR_mem {kvs : List (Key × D)} {ps : List (D × D)} (h : RowOk kvs ps) (z : D) (hz : z = .non ∨ z = .int 0) : ∀ d, d ∈ mmR z kvs ps → d = .non ∨ d = .int 0 ∨ SideV kvs d := by
  intro d hd
  obtain ⟨p, hp, rfl⟩ := List.mem_map.mp hd
  rcases mm_cases (h p hp) with ⟨e1, e2⟩ | ⟨e1, e2⟩
  · rcases hz with rfl | rfl
    · exact .inl e1
    · exact .inr (.inl e2)
  · rcases hz with rfl | rfl
    · rw [e1]; exact .inr (.inr e2)
    · exact .inr (.inr e2)

end Q

set_option Elab.async false
set_option linter.all false
set_option maxRecDepth 100000
set_option maxHeartbeats 4000000
namespace Q
open PySem PySem.Spec PyProof.Rows L2 DL
theorem broadcast_ok {kvs : List (Key × D)} {xs ys : List D} {ps : List (D × D)} (s : FS) (hx : xs.length ≤ 100) (hy : ys.length ≤ 100) (hz : zipD (padN (max xs.length ys.length) xs) (padN (max xs.length ys.length) ys) = rowD ps) (h : RowOk kvs ps) (h4 : ps.length ≤ 4) :
    g_broadcast [.tup xs, .tup ys, .dic kvs] s = .ok (if (mmR (.int 0) kvs ps).any isZero = true then .non else .tup (mmR (.int 0) kvs ps)) s := by
  have hsz : sizeLine = 16777216 := rfl
  have hlen : (rowD ps).length = ps.length := by unfold rowD; rw [List.length_map]
  have hl2 : (mmR .non kvs ps).length = ps.length := by unfold mmR; rw [List.length_map]
  obtain ⟨c1, c2⟩ := clash_same h
  refine DL.Rm.det ?_
  unfold g_broadcast
  refine DL.Rm.run rfl ?_
  unfold b_broadcast
  show Rm (gSeq _ _ [.d (.tup xs), .d (.tup ys), .d (.dic kvs), .no, .no, .no]) s _
  refine DL.Rm.seq1 (ρ' := [.d (.tup xs), .d (.tup ys), .d (.dic kvs), .ol (mmR .non kvs ps), .no, .no]) ?_ ?_
  · walk_at "rm"
    refine DL.Rm.eq (aligned_ok s hx hy) ?_
    rw [hz]
    walk_at "rm"
    refine ⟨by rw [hlen]; omega, DL.Rm.lcMap (mmG .non kvs) (fun d hd => ?_) ?_⟩
    · obtain ⟨p, hp, rfl⟩ := List.mem_map.mp hd
      refine ⟨_, rfl, ?_⟩
      refine DL.Rm.det ?_
      walk_at "rm"
      exact DL.Rm.eq (met_mm s (row_pair (h p hp))).1 ⟨rfl, rfl⟩
    · rw [mmG_row]
      exact ⟨rfl, rfl⟩
  · refine DL.Rm.frz ?_
    show Rm (gRet _ [.d (.tup xs), .d (.tup ys), .d (.dic kvs), .d (.lst (mmR .non kvs ps)), .no, .no]) s _
    walk_at "rm"
    refine DL.Rm.lift (in_non (mmR_mem h .non (.inl rfl))) ?_
    rw [c1]
    walk_at "rm"
    refine DL.Rm.ite (fun hk => ?_) (fun hk => ?_)
    · walk_at "rm"
      rw [if_pos hk]
      exact ⟨rfl, rfl⟩
    · walk_at "rm"
      refine DL.Rm.ite (fun h5 => ?_) (fun h5 => ?_)
      · have h5 : (4 : Int) < ((mmR .non kvs ps).length : Int) := of_decide_eq_true h5
        rw [hl2] at h5
        omega
      · walk_at "rm"
        rw [if_neg (by rw [hk]; decide), (c2 hk).1]
        exact ⟨rfl, rfl⟩

end Q

set_option Elab.async false
set_option linter.all false
set_option maxRecDepth 100000
set_option maxHeartbeats 4000000
namespace Q
open PySem PySem.Spec PyProof.Rows L2 DL
/-- a table of sizes: the letters in order -/
def TabOk (ls : List Str) (kvs : List (Key × D)) : Prop := kvs.map (·.1) = ls.map Sum.inr ∧ ∀ kv, kv ∈ kvs → ∃ v : Int, kv.2 = .int v ∧ 1 ≤ v ∧ v ≤ 1000000
theorem put_new {kvs : List (Key × D)} {k : Key} {v : D} (h : k ∉ kvs.map (·.1)) : putD kvs k v = kvs ++ [(k, v)] := by
  unfold putD
  rw [if_neg]
  intro z
  rw [List.any_eq_true] at z
  obtain ⟨p, hp, e⟩ := z
  exact h (List.mem_map.mpr ⟨p, hp, of_decide_eq_true e⟩)
theorem table_ok {ls : List Str} {n : Int} {s : FS} {Q : D → FS → Prop} (hn : 0 < n) (hn2 : n ≤ 1000000) (hl : ls.length ≤ 1000) (hd : ls.Nodup) (ok : s.Ok) (q : ∀ (kvs : List (Key × D)) s', s'.Ok → TabOk ls kvs → Q (.dic kvs) s') : Rm (g_law_table [.feed, .lst (ls.map D.str), .int n]) s Q := by
  have hsz : sizeLine = 16777216 := rfl
  unfold g_law_table
  refine DL.Rm.run rfl ?_
  unfold b_law_table
  show Rm (gSeq _ _ [.d .feed, .d (.lst (ls.map D.str)), .d (.int n), .no, .no, .no]) s _
  walk_at "rm"
  refine DL.Rm.draw (by omega) (by omega) ok fun k s1 ok1 k0 k1 => ?_
  walk_at "rm"
  refine DL.Rm.loop (fun xs ρ s' => ∃ (a r : List Str) (kvs : List (Key × D)) (e : EV), xs = r.map D.str ∧ a ++ r = ls ∧ ρ = [.d .feed, .d (.lst (ls.map D.str)), .d (.int n), .d (.int (1 + k)), .od kvs, e] ∧ s'.Ok ∧ TabOk a kvs) ⟨[], ls, [], _, rfl, rfl, rfl, ok1, rfl, fun kv h => by simp at h⟩ ?_ ?_
  · rintro x xs ρ s' ⟨a, r, kvs, e, h1, h2, rfl, ok', ht⟩
    cases r with
    | nil => cases h1
    | cons l r =>
      cases h1
      refine ⟨_, rfl, ?_⟩
      show Rm _ _ _
      walk_at "rm"
      refine DL.Rm.draw (by omega) (by omega) ok' fun k2 s2 ok2 j0 j1 => ?_
      walk_at "rm"
      refine of_ok (by simp) (by simp) ok2 fun y s3 hy ok3 => ?_
      obtain ⟨v, rfl, v1, v2⟩ : ∃ v : Int, y = .int v ∧ 1 ≤ v ∧ v ≤ 1000000 := by
        simp only [List.mem_cons, List.not_mem_nil, or_false] at hy
        rcases hy with rfl | rfl | rfl | rfl
        · exact ⟨_, rfl, by decide, by decide⟩
        · exact ⟨_, rfl, by omega, by omega⟩
        · exact ⟨_, rfl, by omega, by omega⟩
        · exact ⟨_, rfl, by omega, by omega⟩
      have nk : (Sum.inr l : Key) ∉ kvs.map (·.1) := by
        rw [ht.1]
        intro z
        obtain ⟨l', hl', e⟩ := List.mem_map.mp z
        cases e
        rw [← h2] at hd
        exact (List.nodup_append.mp hd).2.2 _ hl' _ List.mem_cons_self rfl
      have kl : kvs.length < sizeLine := by
        have e1 : (kvs.map (·.1)).length = (a.map (Sum.inr : Str → Key)).length := by rw [ht.1]
        rw [List.length_map, List.length_map] at e1
        have e2 : (a ++ l :: r).length = ls.length := by rw [h2]
        rw [List.length_append, List.length_cons] at e2
        omega
      walk_at "rm"
      refine DL.Rm.stdk rfl ?_
      walk_at "rm"
      refine DL.Rm.stdk2 rfl kl ?_
      refine DL.Rm.lift (a := Sum.inr l) rfl ?_
      refine ⟨a ++ [l], r, kvs ++ [(.inr l, .int v)], .d (.str l), rfl, by rw [List.append_assoc]; exact h2, ?_, ok3, ?_, fun kv hkv => ?_⟩
      · rw [← put_new nk]; rfl
      · rw [List.map_append, ht.1, List.map_append]; rfl
      · rcases List.mem_append.mp hkv with h | h
        · exact ht.2 kv h
        · rw [List.mem_singleton] at h; subst h; exact ⟨v, rfl, v1, v2⟩
  · rintro ρ s' ⟨a, r, kvs, e, h1, h2, rfl, ok', ht⟩
    cases r with
    | cons l r => cases h1
    | nil =>
      rw [List.append_nil] at h2
      subst h2
      walk_at "rm"
      exact q kvs s' ok' ht

end Q

set_option Elab.async false
set_option linter.all false
set_option maxRecDepth 100000
set_option maxHeartbeats 4000000
namespace Q
open PySem PySem.Spec PyProof.Rows L2 DL
theorem row_zip : ∀ (L R : List D), zipD L R = rowD (L.zip R)
  | [], R => by simp [zipD, rowD]
  | _ :: _, [] => rfl
  | x :: L, y :: R => by
    show _ :: zipD L R = _ :: rowD (L.zip R)
    rw [row_zip L R]
theorem tab_side {ls : List Str} {kvs : List (Key × D)} {x : D} (ht : TabOk ls kvs) (hd : ls.Nodup) (h : Side ls x) : SideV kvs x := by
  rcases h with ⟨l, hl, rfl⟩ | rfl | rfl | rfl
  · have hk : (Sum.inr l : Key) ∈ kvs.map (·.1) := by rw [ht.1]; exact List.mem_map.mpr ⟨l, hl, rfl⟩
    obtain ⟨⟨k, d⟩, hm, rfl⟩ := List.mem_map.mp hk
    obtain ⟨v, e, v1, _⟩ := ht.2 _ hm
    have e : d = .int v := e
    subst e
    have nd : (kvs.map (·.1)).Nodup := by
      rw [ht.1]
      exact List.Pairwise.map _ (fun a b hab e => hab (Sum.inr.inj e)) hd
    have lk := look_mem nd hm
    refine ⟨v, ?_, v1⟩
    unfold valT
    dsimp only at lk ⊢
    rw [lk]
  · exact ⟨1, rfl, by decide⟩
  · exact ⟨2, rfl, by decide⟩
  · exact ⟨3, rfl, by decide⟩
theorem pad_mem {n : Nat} {xs : List D} {d : D} (h : d ∈ padN n xs) : d = .non ∨ d ∈ xs := by
  unfold padN at h
  rcases List.mem_append.mp h with h | h
  · exact .inl (List.eq_of_mem_replicate h)
  · exact .inr h
theorem pad_full {xs : List D} : padN xs.length xs = xs := by
  unfold padN
  rw [Nat.sub_self]
  rfl
theorem row_ok {kvs : List (Key × D)} {xs ys : List D} (hx : ∀ x, x ∈ xs → SideV kvs x) (hy : ∀ y, y ∈ ys → SideV kvs y) : RowOk kvs ((padN (max xs.length ys.length) xs).zip (padN (max xs.length ys.length) ys)) := by
  rintro ⟨x, y⟩ h
  have h1 := (List.of_mem_zip h).1
  have h2 := (List.of_mem_zip h).2
  rcases Nat.le_total xs.length ys.length with hl | hl
  · rw [Nat.max_eq_right hl] at h1 h2
    rw [pad_full] at h2
    rcases pad_mem h1 with e | e
    · exact .inl ⟨e, hy y h2⟩
    · exact .inr (.inr ⟨hx x e, hy y h2⟩)
  · rw [Nat.max_eq_left hl] at h1 h2
    rw [pad_full] at h1
    rcases pad_mem h2 with e | e
    · exact .inr (.inl ⟨e, hx x h1⟩)
    · exact .inr (.inr ⟨hx x h1, hy y e⟩)

end Q

set_option Elab.async false
set_option linter.all false
set_option maxRecDepth 100000
set_option maxHeartbeats 4000000
namespace Q
open PySem PySem.Spec PyProof.Rows L2 DL
theorem pln_side {ls : List Str} {d : D} (n : Nat) (hls : ∀ x, x ∈ ls → x ∈ alpha) (h : Side ls d) : plnB (n + 1) d := by
  rcases h with ⟨l, hl, rfl⟩ | rfl | rfl | rfl
  · have : ∀ x, x ∈ alpha → (reprText x).length ≤ sizeLine := by decide +kernel
    exact this l (hls l hl)
  · exact pln_int n 1 (by decide)
  · exact pln_int n 2 (by decide)
  · exact pln_int n 3 (by decide)

end Q

set_option Elab.async false
set_option linter.all false
set_option maxRecDepth 100000
set_option maxHeartbeats 4000000
namespace Q
open PySem PySem.Spec PyProof.Rows L2 DL
theorem mm_or (z : D) (kvs : List (Key × D)) (x y : D) : mmF z kvs x y = x ∨ mmF z kvs x y = y ∨ mmF z kvs x y = z := by
  have mt : ∀ x y a b, metS z x y a b = x ∨ metS z x y a b = y ∨ metS z x y a b = z := fun x y a b => by
    unfold metS
    split
    · split
      · exact .inr (.inl rfl)
      · exact .inl rfl
    · split
      · exact .inr (.inl rfl)
      · split
        · exact .inl rfl
        · exact .inr (.inr rfl)
  cases x <;> first | exact .inr (.inl rfl) | (cases y <;> first | exact .inl rfl | exact mt _ _ _ _)
theorem turn_ok {ls : List Str} {kvs : List (Key × D)} {xs ys : List D} (s : FS) (ht : TabOk ls kvs) (hd : ls.Nodup) (hal : ∀ x, x ∈ ls → x ∈ alpha) (lx : xs.length ≤ 4) (ly : ys.length ≤ 4) (hx : ∀ x, x ∈ xs → Side ls x) (hy : ∀ x, x ∈ ys → Side ls x) :
    ∃ ps : List (D × D), zipD (padN (max xs.length ys.length) xs) (padN (max xs.length ys.length) ys) = rowD ps ∧ RowOk kvs ps ∧ ps.length ≤ 4 ∧ ((mmR (.int 0) kvs ps).any isZero = false → plnB 8 (.tup (mmR (.int 0) kvs ps))) := by
  have hr := row_ok (fun x h => tab_side ht hd (hx x h)) (fun y h => tab_side ht hd (hy y h))
  have hl : ((padN (max xs.length ys.length) xs).zip (padN (max xs.length ys.length) ys)).length ≤ 4 := by
    rw [List.length_zip, padN_len (by omega), padN_len (by omega)]
    omega
  refine ⟨_, row_zip _ _, hr, hl, fun hz => ⟨?_, fun d hdm => ?_⟩⟩
  · unfold mmR
    rw [List.length_map]
    exact Nat.le_trans hl (by decide)
  · have hs := ((clash_same hr).2 hz).2 d hdm
    obtain ⟨p, hp, e⟩ := List.mem_map.mp hdm
    have h1 := (List.of_mem_zip (a := p.1) (b := p.2) hp).1
    have h2 := (List.of_mem_zip (a := p.1) (b := p.2) hp).2
    have sn := side_not hs
    rcases mm_or (.int 0) kvs p.1 p.2 with q | q | q
    · rcases pad_mem h1 with g | g
      · rw [← e, q, g] at sn; cases sn.1
      · exact pln_side 6 hal (by rw [← e, q]; exact hx _ g)
    · rcases pad_mem h2 with g | g
      · rw [← e, q, g] at sn; cases sn.1
      · exact pln_side 6 hal (by rw [← e, q]; exact hy _ g)
    · rw [← e, q] at sn; cases sn.2
theorem pln_tab {ls : List Str} {kvs : List (Key × D)} (ht : TabOk ls kvs) (hd : ls.Nodup) (hl : ls.length ≤ 1000) : plnB 8 (.dic kvs) := by
  have e1 : (kvs.map (·.1)).length = (ls.map (Sum.inr : Str → Key)).length := by rw [ht.1]
  rw [List.length_map, List.length_map] at e1
  refine ⟨by rw [e1]; exact Nat.le_trans hl (by decide), ?_, fun kv h => ?_⟩
  · rw [ht.1]
    exact List.Pairwise.map _ (fun a b hab e => hab (Sum.inr.inj e)) hd
  · obtain ⟨v, e, v1, v2⟩ := ht.2 kv h
    rw [e]
    exact pln_int 6 v (by omega)

end Q

set_option Elab.async false
set_option linter.all false
set_option maxRecDepth 100000
set_option maxHeartbeats 4000000
namespace Q
open PySem PySem.Spec PyProof.Rows L2 DL
theorem law_ok (ns : List Int) (hl : ns.length ≤ 63) : ∃ ρ' s', b_law (.no :: .d .feed :: List.replicate 11 .no) (fs1 ns) = .ok (.rt (.bl true), ρ') s' := by
  have hsz : sizeLine = 16777216 := rfl
  have key : Rm (b_law (.no :: .d .feed :: List.replicate 11 .no)) (fs1 ns) (fun p _ => p.1 = .rt (.bl true)) := by
    unfold b_law
    show Rm (gSeq _ _ [.no, .d .feed, .no, .no, .no, .no, .no, .no, .no, .no, .no, .no, .no]) _ _
    walk_at "rm"
    refine DL.Rm.loop (fun xs ρ s' => ∃ (e2 e3 e4 e5 e6 e7 e8 e9 e10 e11 e12 : EV), ρ = [.no, .d .feed, e2, e3, e4, e5, e6, e7, e8, e9, e10, e11, e12] ∧ s'.Ok) ⟨_, _, _, _, _, _, _, _, _, _, _, rfl, fs1_ok ns⟩ ?_ ?_
    · rintro x xs ρ s' ⟨e2, e3, e4, e5, e6, e7, e8, e9, e10, e11, e12, rfl, ok⟩
      refine ⟨_, rfl, ?_⟩
      show Rm _ _ _
      walk_at "rm"
      refine DL.Rm.draw (by decide) (by decide) ok fun k s1 ok1 k0 k4 => ?_
      walk_at "rm"
      refine some_ok (by omega) (by omega) ok1 fun ls s2 ok2 hll hnd hal hsr => ?_
      have hls : ls.length ≤ 10 := by omega
      walk_at "rm"
      show Rm (gPar 4 5 _ _ [.no, .d .feed, .d x, .d (.lst (ls.map D.str)), e4, e5, e6, e7, e8, e9, e10, e11, e12]) _ _
      walk_at "rm"
      refine sides_ok (by decide) (by decide) (by omega) (fun x hx => alpha_strOk x (hal x hx)) ok2 fun sh s3 ok3 hsl hsd => ?_
      have hsl : sh.length ≤ 4 := hsl
      walk_at "rm"
      refine sides_ok (by decide) (by decide) (by omega) (fun x hx => alpha_strOk x (hal x hx)) ok3 fun sh2 s4 ok4 hsl2 hsd2 => ?_
      have hsl2 : sh2.length ≤ 4 := hsl2
      walk_at "rm"
      refine of_ok (by simp) (by simp) ok4 fun y s5 hy ok5 => ?_
      obtain ⟨n, rfl, n1, n2⟩ : ∃ n : Int, y = .int n ∧ 0 < n ∧ n ≤ 1000000 := by
        simp only [List.mem_cons, List.not_mem_nil, or_false] at hy
        rcases hy with rfl | rfl | rfl <;> exact ⟨_, rfl, by decide, by decide⟩
      clear hy
      walk_at "rm"
      refine table_ok n1 n2 (by omega) hnd ok5 fun kvs s6 ok6 ht => ?_
      walk_at "rm"
      refine DL.Rm.loop (fun xs ρ s' => ∃ (e2 e3 e4 e5 e8 e9 e10 e11 e12 : EV), ρ = [.no, .d .feed, e2, e3, e4, e5, .d (.dic kvs), .d (.dic kvs), e8, e9, e10, e11, e12] ∧ s'.Ok ∧ ∀ x, x ∈ xs → ∃ a b : List D, x = .tup [.tup a, .tup b] ∧ a.length ≤ 4 ∧ b.length ≤ 4 ∧ (∀ x, x ∈ a → Side ls x) ∧ ∀ x, x ∈ b → Side ls x) ⟨_, _, _, _, _, _, _, _, _, rfl, ok6, fun x hx => ?_⟩ ?_ ?_
      · simp only [List.mem_cons, List.not_mem_nil, or_false] at hx
        rcases hx with rfl | rfl | rfl | rfl | rfl
        · exact ⟨_, _, rfl, hsl, hsl2, hsd, hsd2⟩
        · exact ⟨_, _, rfl, hsl2, hsl, hsd2, hsd⟩
        · exact ⟨_, _, rfl, hsl, hsl, hsd, hsd⟩
        · exact ⟨_, [], rfl, hsl, by simp, hsd, fun x h => by simp at h⟩
        · exact ⟨[], _, rfl, by simp, hsl2, fun x h => by simp at h, hsd2⟩
      · rintro x xs ρ s' ⟨e2, e3, e4, e5, e8, e9, e10, e11, e12, rfl, ok, hth⟩
        obtain ⟨a, b, rfl, la, lb, ha, hb⟩ := hth x List.mem_cons_self
        obtain ⟨ps, hz, hr, h4, hpl⟩ := turn_ok s' ht hnd hal la lb ha hb
        have hlen : (rowD ps).length = ps.length := by unfold rowD; rw [List.length_map]
        refine ⟨_, rfl, ?_⟩
        show Rm _ _ _
        walk_at "rm"
        refine DL.Rm.eq (pairs_ok s' (by omega) (by omega)) ?_
        rw [hz]
        walk_at "rm"
        refine ⟨by rw [hlen]; omega, DL.Rm.lcMap (mmG (.int 0) kvs) (fun d hd => ?_) ?_⟩
        · obtain ⟨p, hp, rfl⟩ := List.mem_map.mp hd
          refine ⟨_, rfl, ?_⟩
          refine DL.Rm.det ?_
          walk_at "rm"
          exact DL.Rm.eq (met_mm s' (row_pair (hr p hp))).2 ⟨rfl, rfl⟩
        · rw [mmG_row]
          walk_at "rm"
          refine DL.Rm.eq (broadcast_ok s' (by omega) (by omega) hz hr h4) ?_
          walk_at "rm"
          refine DL.Rm.lift (in_zero (mmR_mem hr (.int 0) (.inr rfl))) ?_
          walk_at "rm"
          refine DL.Rm.ite (fun hk => ?_) (fun hk => ?_)
          · rw [if_pos hk]
            walk_at "rm"
            refine DL.Rm.eq (same_ok 8 .non s' trivial) ?_
            walk_at "rm"
            exact ⟨_, _, _, _, _, _, _, _, _, rfl, ok, fun y hy => hth y (List.mem_cons_of_mem _ hy)⟩
          · rw [if_neg (by rw [hk]; decide)]
            walk_at "rm"
            refine DL.Rm.eq (same_ok 8 _ s' (hpl hk)) ?_
            walk_at "rm"
            exact ⟨_, _, _, _, _, _, _, _, _, rfl, ok, fun y hy => hth y (List.mem_cons_of_mem _ hy)⟩
      · rintro ρ s' ⟨e2, e3, e4, e5, e8, e9, e10, e11, e12, rfl, ok, hth⟩
        walk_at "rm"
        refine DL.Rm.eq (same_ok 8 (.dic kvs) s' (pln_tab ht hnd (by omega))) ?_
        walk_at "rm"
        exact ⟨_, _, _, _, _, _, _, _, _, _, _, rfl, ok⟩
    · rintro ρ s' ⟨e2, e3, e4, e5, e6, e7, e8, e9, e10, e11, e12, rfl, ok⟩
      walk_at "rm"
      rfl
  obtain ⟨⟨f, ρ'⟩, s', e, h⟩ := key.out
  have h : f = .rt (.bl true) := h
  subst h
  exact ⟨ρ', s', e⟩

end Q

set_option Elab.async false
set_option linter.all false
set_option maxRecDepth 100000
namespace Q
open DL L2 PyProof.Rows PySem PySem.Spec
theorem all_mk {l : PySem.W.OpenLaw} {w : World} {K : PySem.W.Frag} {h : Heap} {mg : Str → Option Value} {fa f_size_of f_aligned f_met f_broadcast f_law_feed f_law_draw f_law_of f_law_same f_law_signs f_law_some_letters f_law_number_side f_law_sides f_law_size f_law_table f_law_pairs f_law_meet f_law : Addr}
    (X : K.In h) (G : h.Ns mainGlobals mg) (hfa : mg "law" = some (.ref fa))
    {od_size_of an_size_of : Option Addr} {sl_size_of : Array (Option Value)} {oc_size_of kV_size_of dc_size_of pm_size_of cd_size_of ct_size_of : Value}
    {od_aligned an_aligned : Option Addr} {sl_aligned : Array (Option Value)} {oc_aligned kV_aligned dc_aligned pm_aligned cd_aligned ct_aligned : Value}
    {od_met an_met : Option Addr} {sl_met : Array (Option Value)} {oc_met kV_met dc_met pm_met cd_met ct_met : Value}
    {od_broadcast an_broadcast : Option Addr} {sl_broadcast : Array (Option Value)} {oc_broadcast kV_broadcast dc_broadcast pm_broadcast cd_broadcast ct_broadcast : Value}
    {od_law_feed an_law_feed : Option Addr} {sl_law_feed : Array (Option Value)} {oc_law_feed kV_law_feed dc_law_feed pm_law_feed cd_law_feed ct_law_feed : Value}
    {od_law_draw an_law_draw : Option Addr} {sl_law_draw : Array (Option Value)} {oc_law_draw kV_law_draw dc_law_draw pm_law_draw cd_law_draw ct_law_draw : Value}
    {od_law_of an_law_of : Option Addr} {sl_law_of : Array (Option Value)} {oc_law_of kV_law_of dc_law_of pm_law_of cd_law_of ct_law_of : Value}
    {od_law_same an_law_same : Option Addr} {sl_law_same : Array (Option Value)} {oc_law_same kV_law_same dc_law_same pm_law_same cd_law_same ct_law_same : Value}
    {od_law_signs an_law_signs : Option Addr} {sl_law_signs : Array (Option Value)} {oc_law_signs kV_law_signs dc_law_signs pm_law_signs cd_law_signs ct_law_signs : Value}
    {od_law_some_letters an_law_some_letters : Option Addr} {sl_law_some_letters : Array (Option Value)} {oc_law_some_letters kV_law_some_letters dc_law_some_letters pm_law_some_letters cd_law_some_letters ct_law_some_letters : Value}
    {od_law_number_side an_law_number_side : Option Addr} {sl_law_number_side : Array (Option Value)} {oc_law_number_side kV_law_number_side dc_law_number_side pm_law_number_side cd_law_number_side ct_law_number_side : Value}
    {od_law_sides an_law_sides : Option Addr} {sl_law_sides : Array (Option Value)} {oc_law_sides kV_law_sides dc_law_sides pm_law_sides cd_law_sides ct_law_sides : Value}
    {od_law_size an_law_size : Option Addr} {sl_law_size : Array (Option Value)} {oc_law_size kV_law_size dc_law_size pm_law_size cd_law_size ct_law_size : Value}
    {od_law_table an_law_table : Option Addr} {sl_law_table : Array (Option Value)} {oc_law_table kV_law_table dc_law_table pm_law_table cd_law_table ct_law_table : Value}
    {od_law_pairs an_law_pairs : Option Addr} {sl_law_pairs : Array (Option Value)} {oc_law_pairs kV_law_pairs dc_law_pairs pm_law_pairs cd_law_pairs ct_law_pairs : Value}
    {od_law_meet an_law_meet : Option Addr} {sl_law_meet : Array (Option Value)} {oc_law_meet kV_law_meet dc_law_meet pm_law_meet cd_law_meet ct_law_meet : Value}
    {od_law an_law : Option Addr} {sl_law : Array (Option Value)} {oc_law kV_law dc_law pm_law cd_law ct_law : Value}
    (a_size_of : PySem.W.nsIn K mainGlobals "size_of" = some (some (.ref f_size_of)))
    (l_size_of : K.lookup f_size_of = some ⟨oc_size_of, od_size_of, .func (PySem.W.fnOf "size_of" "size_of" (defArgs s_size_of) (defBody s_size_of) (defScope s_size_of) .none kV_size_of dc_size_of pm_size_of an_size_of cd_size_of ct_size_of), sl_size_of⟩)
    (c_size_of : PySem.W.codeIn K cd_size_of "size_of" = true) (k_size_of : PySem.W.keepIn K (.ref f_size_of) = true)
    (a_aligned : PySem.W.nsIn K mainGlobals "aligned" = some (some (.ref f_aligned)))
    (l_aligned : K.lookup f_aligned = some ⟨oc_aligned, od_aligned, .func (PySem.W.fnOf "aligned" "aligned" (defArgs s_aligned) (defBody s_aligned) (defScope s_aligned) .none kV_aligned dc_aligned pm_aligned an_aligned cd_aligned ct_aligned), sl_aligned⟩)
    (c_aligned : PySem.W.codeIn K cd_aligned "aligned" = true) (k_aligned : PySem.W.keepIn K (.ref f_aligned) = true)
    (a_met : PySem.W.nsIn K mainGlobals "met" = some (some (.ref f_met)))
    (l_met : K.lookup f_met = some ⟨oc_met, od_met, .func (PySem.W.fnOf "met" "met" (defArgs s_met) (defBody s_met) (defScope s_met) .none kV_met dc_met pm_met an_met cd_met ct_met), sl_met⟩)
    (c_met : PySem.W.codeIn K cd_met "met" = true) (k_met : PySem.W.keepIn K (.ref f_met) = true)
    (a_broadcast : PySem.W.nsIn K mainGlobals "broadcast" = some (some (.ref f_broadcast)))
    (l_broadcast : K.lookup f_broadcast = some ⟨oc_broadcast, od_broadcast, .func (PySem.W.fnOf "broadcast" "broadcast" (defArgs s_broadcast) (defBody s_broadcast) (defScope s_broadcast) .none kV_broadcast dc_broadcast pm_broadcast an_broadcast cd_broadcast ct_broadcast), sl_broadcast⟩)
    (c_broadcast : PySem.W.codeIn K cd_broadcast "broadcast" = true) (k_broadcast : PySem.W.keepIn K (.ref f_broadcast) = true)
    (a_law_feed : PySem.W.nsIn K mainGlobals "_law_feed" = some (some (.ref f_law_feed)))
    (l_law_feed : K.lookup f_law_feed = some ⟨oc_law_feed, od_law_feed, .func (PySem.W.fnOf "_law_feed" "_law_feed" (defArgs s_law_feed) (defBody s_law_feed) (defScope s_law_feed) .none kV_law_feed dc_law_feed pm_law_feed an_law_feed cd_law_feed ct_law_feed), sl_law_feed⟩)
    (c_law_feed : PySem.W.codeIn K cd_law_feed "_law_feed" = true) (k_law_feed : PySem.W.keepIn K (.ref f_law_feed) = true)
    (a_law_draw : PySem.W.nsIn K mainGlobals "_law_draw" = some (some (.ref f_law_draw)))
    (l_law_draw : K.lookup f_law_draw = some ⟨oc_law_draw, od_law_draw, .func (PySem.W.fnOf "_law_draw" "_law_draw" (defArgs s_law_draw) (defBody s_law_draw) (defScope s_law_draw) .none kV_law_draw dc_law_draw pm_law_draw an_law_draw cd_law_draw ct_law_draw), sl_law_draw⟩)
    (c_law_draw : PySem.W.codeIn K cd_law_draw "_law_draw" = true) (k_law_draw : PySem.W.keepIn K (.ref f_law_draw) = true)
    (a_law_of : PySem.W.nsIn K mainGlobals "_law_of" = some (some (.ref f_law_of)))
    (l_law_of : K.lookup f_law_of = some ⟨oc_law_of, od_law_of, .func (PySem.W.fnOf "_law_of" "_law_of" (defArgs s_law_of) (defBody s_law_of) (defScope s_law_of) .none kV_law_of dc_law_of pm_law_of an_law_of cd_law_of ct_law_of), sl_law_of⟩)
    (c_law_of : PySem.W.codeIn K cd_law_of "_law_of" = true) (k_law_of : PySem.W.keepIn K (.ref f_law_of) = true)
    (a_law_same : PySem.W.nsIn K mainGlobals "_law_same" = some (some (.ref f_law_same)))
    (l_law_same : K.lookup f_law_same = some ⟨oc_law_same, od_law_same, .func (PySem.W.fnOf "_law_same" "_law_same" (defArgs s_law_same) (defBody s_law_same) (defScope s_law_same) .none kV_law_same dc_law_same pm_law_same an_law_same cd_law_same ct_law_same), sl_law_same⟩)
    (c_law_same : PySem.W.codeIn K cd_law_same "_law_same" = true) (k_law_same : PySem.W.keepIn K (.ref f_law_same) = true)
    (a_law_signs : PySem.W.nsIn K mainGlobals "_law_signs" = some (some (.ref f_law_signs)))
    (l_law_signs : K.lookup f_law_signs = some ⟨oc_law_signs, od_law_signs, .func (PySem.W.fnOf "_law_signs" "_law_signs" (defArgs s_law_signs) (defBody s_law_signs) (defScope s_law_signs) .none kV_law_signs dc_law_signs pm_law_signs an_law_signs cd_law_signs ct_law_signs), sl_law_signs⟩)
    (c_law_signs : PySem.W.codeIn K cd_law_signs "_law_signs" = true) (k_law_signs : PySem.W.keepIn K (.ref f_law_signs) = true)
    (a_law_some_letters : PySem.W.nsIn K mainGlobals "_law_some_letters" = some (some (.ref f_law_some_letters)))
    (l_law_some_letters : K.lookup f_law_some_letters = some ⟨oc_law_some_letters, od_law_some_letters, .func (PySem.W.fnOf "_law_some_letters" "_law_some_letters" (defArgs s_law_some_letters) (defBody s_law_some_letters) (defScope s_law_some_letters) .none kV_law_some_letters dc_law_some_letters pm_law_some_letters an_law_some_letters cd_law_some_letters ct_law_some_letters), sl_law_some_letters⟩)
    (c_law_some_letters : PySem.W.codeIn K cd_law_some_letters "_law_some_letters" = true) (k_law_some_letters : PySem.W.keepIn K (.ref f_law_some_letters) = true)
    (a_law_number_side : PySem.W.nsIn K mainGlobals "_law_number_side" = some (some (.ref f_law_number_side)))
    (l_law_number_side : K.lookup f_law_number_side = some ⟨oc_law_number_side, od_law_number_side, .func (PySem.W.fnOf "_law_number_side" "_law_number_side" (defArgs s_law_number_side) (defBody s_law_number_side) (defScope s_law_number_side) .none kV_law_number_side dc_law_number_side pm_law_number_side an_law_number_side cd_law_number_side ct_law_number_side), sl_law_number_side⟩)
    (c_law_number_side : PySem.W.codeIn K cd_law_number_side "_law_number_side" = true) (k_law_number_side : PySem.W.keepIn K (.ref f_law_number_side) = true)
    (a_law_sides : PySem.W.nsIn K mainGlobals "_law_sides" = some (some (.ref f_law_sides)))
    (l_law_sides : K.lookup f_law_sides = some ⟨oc_law_sides, od_law_sides, .func (PySem.W.fnOf "_law_sides" "_law_sides" (defArgs s_law_sides) (defBody s_law_sides) (defScope s_law_sides) .none kV_law_sides dc_law_sides pm_law_sides an_law_sides cd_law_sides ct_law_sides), sl_law_sides⟩)
    (c_law_sides : PySem.W.codeIn K cd_law_sides "_law_sides" = true) (k_law_sides : PySem.W.keepIn K (.ref f_law_sides) = true)
    (a_law_size : PySem.W.nsIn K mainGlobals "_law_size" = some (some (.ref f_law_size)))
    (l_law_size : K.lookup f_law_size = some ⟨oc_law_size, od_law_size, .func (PySem.W.fnOf "_law_size" "_law_size" (defArgs s_law_size) (defBody s_law_size) (defScope s_law_size) .none kV_law_size dc_law_size pm_law_size an_law_size cd_law_size ct_law_size), sl_law_size⟩)
    (c_law_size : PySem.W.codeIn K cd_law_size "_law_size" = true) (k_law_size : PySem.W.keepIn K (.ref f_law_size) = true)
    (a_law_table : PySem.W.nsIn K mainGlobals "_law_table" = some (some (.ref f_law_table)))
    (l_law_table : K.lookup f_law_table = some ⟨oc_law_table, od_law_table, .func (PySem.W.fnOf "_law_table" "_law_table" (defArgs s_law_table) (defBody s_law_table) (defScope s_law_table) .none kV_law_table dc_law_table pm_law_table an_law_table cd_law_table ct_law_table), sl_law_table⟩)
    (c_law_table : PySem.W.codeIn K cd_law_table "_law_table" = true) (k_law_table : PySem.W.keepIn K (.ref f_law_table) = true)
    (a_law_pairs : PySem.W.nsIn K mainGlobals "_law_pairs" = some (some (.ref f_law_pairs)))
    (l_law_pairs : K.lookup f_law_pairs = some ⟨oc_law_pairs, od_law_pairs, .func (PySem.W.fnOf "_law_pairs" "_law_pairs" (defArgs s_law_pairs) (defBody s_law_pairs) (defScope s_law_pairs) .none kV_law_pairs dc_law_pairs pm_law_pairs an_law_pairs cd_law_pairs ct_law_pairs), sl_law_pairs⟩)
    (c_law_pairs : PySem.W.codeIn K cd_law_pairs "_law_pairs" = true) (k_law_pairs : PySem.W.keepIn K (.ref f_law_pairs) = true)
    (a_law_meet : PySem.W.nsIn K mainGlobals "_law_meet" = some (some (.ref f_law_meet)))
    (l_law_meet : K.lookup f_law_meet = some ⟨oc_law_meet, od_law_meet, .func (PySem.W.fnOf "_law_meet" "_law_meet" (defArgs s_law_meet) (defBody s_law_meet) (defScope s_law_meet) .none kV_law_meet dc_law_meet pm_law_meet an_law_meet cd_law_meet ct_law_meet), sl_law_meet⟩)
    (c_law_meet : PySem.W.codeIn K cd_law_meet "_law_meet" = true) (k_law_meet : PySem.W.keepIn K (.ref f_law_meet) = true)
    (a_law : PySem.W.nsIn K mainGlobals "law" = some (some (.ref f_law)))
    (l_law : K.lookup f_law = some ⟨oc_law, od_law, .func (PySem.W.fnOf "law" "law" (defArgs s_law) (defBody s_law) (defScope s_law) .none kV_law dc_law pm_law an_law cd_law ct_law), sl_law⟩)
    (c_law : PySem.W.codeIn K cd_law "law" = true) (k_law : PySem.W.keepIn K (.ref f_law) = true)
    (z_all : PySem.W.nsIn K mainGlobals "all" = some none)
    (z_dict : PySem.W.nsIn K mainGlobals "dict" = some none)
    (z_int : PySem.W.nsIn K mainGlobals "int" = some none)
    (z_isinstance : PySem.W.nsIn K mainGlobals "isinstance" = some none)
    (z_len : PySem.W.nsIn K mainGlobals "len" = some none)
    (z_list : PySem.W.nsIn K mainGlobals "list" = some none)
    (z_max : PySem.W.nsIn K mainGlobals "max" = some none)
    (z_range : PySem.W.nsIn K mainGlobals "range" = some none)
    (z_repr : PySem.W.nsIn K mainGlobals "repr" = some none)
    (z_sorted : PySem.W.nsIn K mainGlobals "sorted" = some none)
    (z_str : PySem.W.nsIn K mainGlobals "str" = some none)
    (z_tuple : PySem.W.nsIn K mainGlobals "tuple" = some none)
    (z_zip : PySem.W.nsIn K mainGlobals "zip" = some none)
    {t_MOST_DIMENSIONS : Tok} (y_MOST_DIMENSIONS : PySem.W.nsIn K mainGlobals "MOST_DIMENSIONS" = some (some (.int 4 t_MOST_DIMENSIONS)))
    : ∃ fd : FuncData, (∀ (s : Shared) (v : Value), BindsTo s fd ⟨[v], []⟩ [("_law_script", v)]) ∧ ∀ base : Heap, K.In base → base.Ns mainGlobals mg → FnOk l.prog w K mg base CX0 10 fa fd ["_law_script"] (spLaw K) := by
  have e := hfa.symm.trans (PySem.W.mg_of X G a_law)
  cases e
  have T : Txt mg := ⟨PySem.W.mg_none_of X G z_all, PySem.W.mg_none_of X G z_dict, PySem.W.mg_none_of X G z_int, PySem.W.mg_none_of X G z_isinstance, PySem.W.mg_none_of X G z_len, PySem.W.mg_none_of X G z_list, PySem.W.mg_none_of X G z_max, PySem.W.mg_none_of X G z_range, PySem.W.mg_none_of X G z_repr, PySem.W.mg_none_of X G z_sorted, PySem.W.mg_none_of X G z_str, PySem.W.mg_none_of X G z_tuple, PySem.W.mg_none_of X G z_zip, ⟨_, PySem.W.mg_of X G y_MOST_DIMENSIONS⟩⟩
  have D_size_of : Dff K mg "size_of" ["dimension", "sizes"] s_size_of := dff_mk X G a_size_of l_size_of c_size_of k_size_of (fun _ _ _ _ _ _ us hl => match us, hl with | [_, _], _ => rfl)
  have D_aligned : Dff K mg "aligned" ["one", "other"] s_aligned := dff_mk X G a_aligned l_aligned c_aligned k_aligned (fun _ _ _ _ _ _ us hl => match us, hl with | [_, _], _ => rfl)
  have D_met : Dff K mg "met" ["one", "other", "sizes"] s_met := dff_mk X G a_met l_met c_met k_met (fun _ _ _ _ _ _ us hl => match us, hl with | [_, _, _], _ => rfl)
  have D_broadcast : Dff K mg "broadcast" ["one", "other", "sizes"] s_broadcast := dff_mk X G a_broadcast l_broadcast c_broadcast k_broadcast (fun _ _ _ _ _ _ us hl => match us, hl with | [_, _, _], _ => rfl)
  have D_law_feed : Dff K mg "_law_feed" ["_law_script"] s_law_feed := dff_mk X G a_law_feed l_law_feed c_law_feed k_law_feed (fun _ _ _ _ _ _ us hl => match us, hl with | [_], _ => rfl)
  have D_law_draw : Dff K mg "_law_draw" ["_law_feed_here", "_law_upto"] s_law_draw := dff_mk X G a_law_draw l_law_draw c_law_draw k_law_draw (fun _ _ _ _ _ _ us hl => match us, hl with | [_, _], _ => rfl)
  have D_law_of : Dff K mg "_law_of" ["_law_feed_here", "_law_items"] s_law_of := dff_mk X G a_law_of l_law_of c_law_of k_law_of (fun _ _ _ _ _ _ us hl => match us, hl with | [_, _], _ => rfl)
  have D_law_same : Dff K mg "_law_same" ["_law_found", "_law_due"] s_law_same := dff_mk X G a_law_same l_law_same c_law_same k_law_same (fun _ _ _ _ _ _ us hl => match us, hl with | [_, _], _ => rfl)
  have D_law_signs : Dff K mg "_law_signs" [] s_law_signs := dff_mk X G a_law_signs l_law_signs c_law_signs k_law_signs (fun _ _ _ _ _ _ us hl => match us, hl with | [], _ => rfl)
  have D_law_some_letters : Dff K mg "_law_some_letters" ["_law_feed_here", "_law_upto"] s_law_some_letters := dff_mk X G a_law_some_letters l_law_some_letters c_law_some_letters k_law_some_letters (fun _ _ _ _ _ _ us hl => match us, hl with | [_, _], _ => rfl)
  have D_law_number_side : Dff K mg "_law_number_side" ["_law_feed_here"] s_law_number_side := dff_mk X G a_law_number_side l_law_number_side c_law_number_side k_law_number_side (fun _ _ _ _ _ _ us hl => match us, hl with | [_], _ => rfl)
  have D_law_sides : Dff K mg "_law_sides" ["_law_feed_here", "_law_letters", "_law_rank"] s_law_sides := dff_mk X G a_law_sides l_law_sides c_law_sides k_law_sides (fun _ _ _ _ _ _ us hl => match us, hl with | [_, _, _], _ => rfl)
  have D_law_size : Dff K mg "_law_size" ["_law_side", "_law_table_here"] s_law_size := dff_mk X G a_law_size l_law_size c_law_size k_law_size (fun _ _ _ _ _ _ us hl => match us, hl with | [_, _], _ => rfl)
  have D_law_table : Dff K mg "_law_table" ["_law_feed_here", "_law_letters", "_law_top"] s_law_table := dff_mk X G a_law_table l_law_table c_law_table k_law_table (fun _ _ _ _ _ _ us hl => match us, hl with | [_, _, _], _ => rfl)
  have D_law_pairs : Dff K mg "_law_pairs" ["_law_one", "_law_two"] s_law_pairs := dff_mk X G a_law_pairs l_law_pairs c_law_pairs k_law_pairs (fun _ _ _ _ _ _ us hl => match us, hl with | [_, _], _ => rfl)
  have D_law_meet : Dff K mg "_law_meet" ["_law_one", "_law_two", "_law_table_here"] s_law_meet := dff_mk X G a_law_meet l_law_meet c_law_meet k_law_meet (fun _ _ _ _ _ _ us hl => match us, hl with | [_, _, _], _ => rfl)
  refine ⟨PySem.W.fnOf "law" "law" (defArgs s_law) (defBody s_law) (defScope s_law) .none kV_law dc_law pm_law an_law cd_law ct_law, fun s v => .of_eq rfl, fun base _ _ => ?_⟩
  have C_size_of := cal_size_of (P := l.prog) (w := w) (base := base) T D_size_of
  have C_aligned := cal_aligned (P := l.prog) (w := w) (base := base) T D_aligned
  have C_met := cal_met (P := l.prog) (w := w) (base := base) T D_met C_size_of
  have C_broadcast := cal_broadcast (P := l.prog) (w := w) (base := base) T D_broadcast C_aligned C_met
  have C_law_feed := cal_law_feed (P := l.prog) (w := w) (base := base) T D_law_feed
  have C_law_draw := cal_law_draw (P := l.prog) (w := w) (base := base) T D_law_draw
  have C_law_of := cal_law_of (P := l.prog) (w := w) (base := base) T D_law_of C_law_draw
  have C_law_same := cal_law_same (P := l.prog) (w := w) (base := base) T D_law_same
  have C_law_signs := cal_law_signs (P := l.prog) (w := w) (base := base) T D_law_signs
  have C_law_some_letters := cal_law_some_letters (P := l.prog) (w := w) (base := base) T D_law_some_letters C_law_signs C_law_draw
  have C_law_number_side := cal_law_number_side (P := l.prog) (w := w) (base := base) T D_law_number_side C_law_of
  have C_law_sides := cal_law_sides (P := l.prog) (w := w) (base := base) T D_law_sides C_law_draw C_law_of C_law_number_side
  have C_law_size := cal_law_size (P := l.prog) (w := w) (base := base) T D_law_size
  have C_law_table := cal_law_table (P := l.prog) (w := w) (base := base) T D_law_table C_law_draw C_law_of
  have C_law_pairs := cal_law_pairs (P := l.prog) (w := w) (base := base) T D_law_pairs
  have C_law_meet := cal_law_meet (P := l.prog) (w := w) (base := base) T D_law_meet C_law_size
  exact ok_law T C_law_feed C_law_some_letters C_law_draw C_law_sides C_law_table C_law_of C_law_pairs C_law_meet C_law_same C_broadcast (fun_mk (st := s_law) l_law c_law k_law) feed_ok law_ok
end Q
open PyProof.Rows PySem.W PySem
set_option maxHeartbeats 0 in
theorem PySem.Challenge.cw_quietsides_k05_two_shapes_aligned_holds : PySem.Challenge.rw_quietsides_k05_two_shapes_aligned.Holds := by
  w_on; o_law; k_head; (case hw => w_witness2)
  k_fill
  refine L2.walk_of (l := PySem.Challenge.rw_quietsides_k05_two_shapes_aligned) (n := 63) (k := 10) (x := "_law_script") (CX := fun _ => L2.CX0) (sp := fun w => DL.spLaw _) rfl (by decide) rfl ⟨rfl, by decide, by decide⟩ (fun w h Y => PySem.W.kIn_of Y) ?F (fun _ _ a ns hl _ hS => ⟨a, ns, rfl, hS, hl, fun _ => rfl⟩) (fun _ _ _ _ _ h => h)
  case F =>
    intro w mg fa h KX G hmg
    refine' Q.all_mk KX G hmg ?a_size_of ?l_size_of ?c_size_of ?k_size_of ?a_aligned ?l_aligned ?c_aligned ?k_aligned ?a_met ?l_met ?c_met ?k_met ?a_broadcast ?l_broadcast ?c_broadcast ?k_broadcast ?a_law_feed ?l_law_feed ?c_law_feed ?k_law_feed ?a_law_draw ?l_law_draw ?c_law_draw ?k_law_draw ?a_law_of ?l_law_of ?c_law_of ?k_law_of ?a_law_same ?l_law_same ?c_law_same ?k_law_same ?a_law_signs ?l_law_signs ?c_law_signs ?k_law_signs ?a_law_some_letters ?l_law_some_letters ?c_law_some_letters ?k_law_some_letters ?a_law_number_side ?l_law_number_side ?c_law_number_side ?k_law_number_side ?a_law_sides ?l_law_sides ?c_law_sides ?k_law_sides ?a_law_size ?l_law_size ?c_law_size ?k_law_size ?a_law_table ?l_law_table ?c_law_table ?k_law_table ?a_law_pairs ?l_law_pairs ?c_law_pairs ?k_law_pairs ?a_law_meet ?l_law_meet ?c_law_meet ?k_law_meet ?a_law ?l_law ?c_law ?k_law ?z_all ?z_dict ?z_int ?z_isinstance ?z_len ?z_list ?z_max ?z_range ?z_repr ?z_sorted ?z_str ?z_tuple ?z_zip ?y_MOST_DIMENSIONS
    (case a_size_of => k_is); (case l_size_of => k_is); (case c_size_of => k_is); (case k_size_of => k_is); (case a_aligned => k_is); (case l_aligned => k_is); (case c_aligned => k_is); (case k_aligned => k_is)
    (case a_met => k_is); (case l_met => k_is); (case c_met => k_is); (case k_met => k_is); (case a_broadcast => k_is); (case l_broadcast => k_is); (case c_broadcast => k_is); (case k_broadcast => k_is)
    (case a_law_feed => k_is); (case l_law_feed => k_is); (case c_law_feed => k_is); (case k_law_feed => k_is); (case a_law_draw => k_is); (case l_law_draw => k_is); (case c_law_draw => k_is); (case k_law_draw => k_is)
    (case a_law_of => k_is); (case l_law_of => k_is); (case c_law_of => k_is); (case k_law_of => k_is); (case a_law_same => k_is); (case l_law_same => k_is); (case c_law_same => k_is); (case k_law_same => k_is)
    (case a_law_signs => k_is); (case l_law_signs => k_is); (case c_law_signs => k_is); (case k_law_signs => k_is); (case a_law_some_letters => k_is); (case l_law_some_letters => k_is); (case c_law_some_letters => k_is); (case k_law_some_letters => k_is)
    (case a_law_number_side => k_is); (case l_law_number_side => k_is); (case c_law_number_side => k_is); (case k_law_number_side => k_is); (case a_law_sides => k_is); (case l_law_sides => k_is); (case c_law_sides => k_is); (case k_law_sides => k_is)
    (case a_law_size => k_is); (case l_law_size => k_is); (case c_law_size => k_is); (case k_law_size => k_is); (case a_law_table => k_is); (case l_law_table => k_is); (case c_law_table => k_is); (case k_law_table => k_is)
    (case a_law_pairs => k_is); (case l_law_pairs => k_is); (case c_law_pairs => k_is); (case k_law_pairs => k_is); (case a_law_meet => k_is); (case l_law_meet => k_is); (case c_law_meet => k_is); (case k_law_meet => k_is)
    (case a_law => k_is); (case l_law => k_is); (case c_law => k_is); (case k_law => k_is); (case z_all => k_is); (case z_dict => k_is); (case z_int => k_is); (case z_isinstance => k_is)
    (case z_len => k_is); (case z_list => k_is); (case z_max => k_is); (case z_range => k_is); (case z_repr => k_is); (case z_sorted => k_is); (case z_str => k_is); (case z_tuple => k_is)
    (case z_zip => k_is); (case y_MOST_DIMENSIONS => k_is)

