import PyProof.Rows.All
import Wide.All
import OpenK.AllK
import Wide.FinOn
import KE.KStateDown
import HandS.ForMost
import HandS.ForExc
import HandS.Defaults
import HandS.Wide
import HandS.Gcd
import HandS.IsInst
import HandS.TupAny
import HandS.TupMul
import HandS.Deep
import HandS.DeepEq
import HandS.Conv
import HandS.Style
import HandS.Zip
import HandS.HeadHook2
import HandS.HeadEnd
import Lean
import HandS.Head0
import HandS.Head1
import HandS.Head2
import HandS.HeadHook1
import HandS.Head3
import PySem.Challenge.RW_wildsteps_k53_whole_step_numbers_and_cou
set_option Elab.async false
set_option linter.all false
set_option maxRecDepth 100000
set_option maxHeartbeats 2000000
set_option autoImplicit false
/-! FX: readings as functions. A def of the program becomes a plain Lean function over values without addresses (IV) and a small store of lists; a rule a construct says that the model does what the function tells. -/
namespace FX
open PySem PySem.Spec PyProof.Rows L2

/-! ### values, stores, results -/
/-- built-in classes that the text names, types of values -/
inductive BT where
  | int | bool | str | tuple | list | dict | none
  deriving DecidableEq
def BT.name : BT → String
  | .int => "int"
  | .bool => "bool"
  | .str => "str"
  | .tuple => "tuple"
  | .list => "list"
  | .dict => "dict"
  | .none => "NoneType"
inductive IV where
  | non | bl (b : Bool) | int (i : Int) | str (x : Str) | tup (xs : List IV) | frz (xs : List IV) | ref (n : Nat) | glo (n : Nat) | ty (s : BT)
inductive IO where
  | lst (xs : List IV)
/-- the newest cell first; a cell that stands at the place top - 1 - i has the name i -/
structure Sto where
  top : Nat
  cells : List IO
def Sto.get (S : Sto) (i : Nat) : Option IO := if i < S.top then S.cells[S.top - 1 - i]? else none
def Sto.new (S : Sto) (o : IO) : Sto := ⟨S.top + 1, o :: S.cells⟩
def Sto.put (S : Sto) (i : Nat) (o : IO) : Sto := ⟨S.top, S.cells.set (S.top - 1 - i) o⟩
structure Ex where
  cls : Nat
  arg : Option IV
inductive R (α : Type) where
  | ok (a : α) (S : Sto)
  | ex (e : Ex) (S : Sto)
  | no
def R.bind {α β : Type} (r : R α) (k : α → Sto → R β) : R β := match r with
  | .ok a S => k a S
  | .ex e S => .ex e S
  | .no => .no
abbrev Env' := List (Option IV)
abbrev ME := Env' → Sto → R IV
abbrev MA := Env' → Sto → R (List IV)
abbrev MF := List IV → Sto → R IV

theorem get_new (S : Sto) (o : IO) : (S.new o).get S.top = some o := by
  unfold Sto.get Sto.new
  simp
theorem get_new_ne {S : Sto} {o : IO} {i : Nat} (h : i ≠ S.top) : (S.new o).get i = S.get i := by
  unfold Sto.get Sto.new
  by_cases h1 : i < S.top
  · have h2 : i < S.top + 1 := by omega
    have h3 : S.top + 1 - 1 - i = (S.top - 1 - i) + 1 := by omega
    simp only [h1, h2, if_true, h3, List.getElem?_cons_succ]
  · have h2 : ¬ i < S.top + 1 := by omega
    simp only [h1, h2, if_false]
theorem get_lt {S : Sto} {i : Nat} {o : IO} (h : S.get i = some o) : i < S.top := by
  unfold Sto.get at h
  by_cases h1 : i < S.top
  · exact h1
  · rw [if_neg h1] at h
    cases h
theorem get_put {S : Sto} {i : Nat} {o o' : IO} (h : S.get i = some o) : (S.put i o').get i = some o' := by
  have hl := get_lt h
  unfold Sto.get at h
  rw [if_pos hl] at h
  obtain ⟨h1, _⟩ := List.getElem?_eq_some_iff.mp h
  unfold Sto.get Sto.put
  simp only [hl, if_true]
  rw [List.getElem?_set_self h1]
theorem get_put_ne {S : Sto} {i j : Nat} {o o' : IO} (hi : S.get i = some o) (h : j ≠ i) : (S.put i o').get j = S.get j := by
  have hl := get_lt hi
  unfold Sto.get Sto.put
  by_cases h1 : j < S.top
  · simp only [h1, if_true]
    rw [List.getElem?_set_ne (by omega)]
  · simp only [h1, if_false]

/-! ### the relation -/
/-- what the text has written: K; the addresses of its names by number -/
structure Wd where
  K : PySem.W.Frag
  G : Nat → Addr
  F : Nat → Str
abbrev Map := Nat → Option Addr
/-- a list that is read alone: the script, or one of the text's own -/
def SqF (K : PySem.W.Frag) (H : Hp) (a : Addr) (xs : List V) : Prop :=
  (∃ o, H a = some (.frz o (.lst xs))) ∨
    ∃ (o : Obj) (its : Array Value) (n : Nat), K.lookup a = some o ∧ o.cls = .type "list" ∧ o.dict = none ∧ o.data = .seq its n ∧ its.size ≤ sizeLine ∧ Vals xs its.toList
theorem SqF.sq {K : PySem.W.Frag} {H : Hp} {a : Addr} {xs : List V} (h : SqF K H a xs) : SqL K H a xs := by
  rcases h with ⟨o, h⟩ | h
  · exact .inl (.inr ⟨o, h⟩)
  · exact .inr h
mutual
def RV (C : Wd) (ρ : Map) (H : Hp) : IV → V → Prop
  | .non, v => v = .non
  | .bl b, v => v = .bl b
  | .int i, v => v = .int i
  | .str x, v => v = .str x
  | .ty s, v => v = .ty s.name
  | .glo n, v => v = .ref (C.G n)
  | .ref n, v => ∃ a, ρ n = some a ∧ v = .ref a
  | .tup xs, v => ∃ a vs, v = .ref a ∧ SqT C.K H a vs ∧ RVs C ρ H xs vs
  | .frz xs, v => ∃ a vs, v = .ref a ∧ SqF C.K H a vs ∧ RVs C ρ H xs vs
def RVs (C : Wd) (ρ : Map) (H : Hp) : List IV → List V → Prop
  | [], vs => vs = []
  | x :: xs, vs => ∃ v r, vs = v :: r ∧ RV C ρ H x v ∧ RVs C ρ H xs r
end
def RO (C : Wd) (ρ : Map) (H : Hp) : IO → HO → Prop
  | .lst xs, o => ∃ vs, o = .lst vs ∧ RVs C ρ H xs vs
/-- a tracked object that may be a cell -/
def isCell : HO → Bool
  | .lst _ => true
  | _ => false
structure Rel (C : Wd) (ρ : Map) (S : Sto) (H : Hp) : Prop where
  obj : ∀ i o, S.get i = some o → ∃ a ho, ρ i = some a ∧ H a = some ho ∧ RO C ρ H o ho
  inj : ∀ i j a, ρ i = some a → ρ j = some a → i = j
  live : ∀ i a, ρ i = some a → i < S.top ∧ ∃ ho, H a = some ho ∧ isCell ho = true
structure Ext (ρ : Map) (S : Sto) (H : Hp) (ρ' : Map) (S' : Sto) (H' : Hp) : Prop where
  map : ∀ i a, ρ i = some a → ρ' i = some a
  old : ∀ i a, ρ' i = some a → i < S.top → ρ i = some a
  fresh : ∀ i a, ρ' i = some a → S.top ≤ i → H a = none
  grow : ∃ k, S'.top = S.top + k ∧ S'.cells.length = S.cells.length + k
  frame : ∀ b o, H b = some o → (∀ i, S.get i ≠ none → ρ i ≠ some b) → H' b = some o
  there : ∀ b, H' b = none → H b = none
  dom : ∀ i, i < S.top → S'.get i ≠ none → S.get i ≠ none
theorem Ext.refl {ρ : Map} {S : Sto} {H : Hp} (hl : ∀ i a, ρ i = some a → i < S.top) : Ext ρ S H ρ S H :=
  ⟨fun _ _ h => h, fun _ _ h _ => h, fun i a h z => absurd (hl i a h) (Nat.not_lt.mpr z), ⟨0, rfl, rfl⟩, fun _ _ h _ => h, fun _ h => h, fun _ _ h => h⟩
theorem Rel.refl {C : Wd} {ρ : Map} {S : Sto} {H : Hp} (r : Rel C ρ S H) : Ext ρ S H ρ S H := Ext.refl fun i a h => (r.live i a h).1
theorem Ext.top {ρ ρ' : Map} {S S' : Sto} {H H' : Hp} (e : Ext ρ S H ρ' S' H') : S.top ≤ S'.top := by
  obtain ⟨k, h, _⟩ := e.grow
  omega
theorem Ext.trans {ρ ρ1 ρ2 : Map} {S S1 S2 : Sto} {H H1 H2 : Hp} (a : Ext ρ S H ρ1 S1 H1) (b : Ext ρ1 S1 H1 ρ2 S2 H2) : Ext ρ S H ρ2 S2 H2 where
  map := fun i x h => b.map i x (a.map i x h)
  old := fun i x h hl => a.old i x (b.old i x h (Nat.lt_of_lt_of_le hl a.top)) hl
  fresh := fun i x h hl => by
    by_cases h1 : i < S1.top
    · exact a.fresh i x (b.old i x h h1) hl
    · exact a.there x (b.fresh i x h (Nat.le_of_not_lt h1))
  grow := by
    obtain ⟨k, h1, h2⟩ := a.grow
    obtain ⟨l, h3, h4⟩ := b.grow
    exact ⟨k + l, by omega, by omega⟩
  frame := fun x o h hn => by
    refine b.frame x o (a.frame x o h hn) fun i hi hx => ?_
    by_cases hl : i < S.top
    · exact hn i (a.dom i hl hi) (a.old i x hx hl)
    · rw [a.fresh i x hx (Nat.le_of_not_lt hl)] at h
      cases h
  there := fun x h => a.there x (b.there x h)
  dom := fun i hl h => a.dom i hl (b.dom i (Nat.lt_of_lt_of_le hl a.top) h)

section
variable {C : Wd} {ρ ρ' : Map} {S S' : Sto} {H H' : Hp}
/-- tuples stay -/
theorem Ext.tup (e : Ext ρ S H ρ' S' H') (r : Rel C ρ S H) {K : PySem.W.Frag} {a : Addr} {xs : List V} (h : SqT K H a xs) : SqT K H' a xs := by
  have key : ∀ o, H a = some o → isCell o = false → H' a = some o := fun o ho hc => e.frame a o ho fun i _ hi => by
    obtain ⟨_, ho', e1, e2⟩ := r.live i a hi
    rw [ho] at e1
    cases e1
    rw [hc] at e2
    cases e2
  rcases h with (h | ⟨o, h⟩) | h
  · exact .inl (.inl (key _ h rfl))
  · exact .inl (.inr ⟨o, key _ h rfl⟩)
  · exact .inr h
theorem Ext.frz (e : Ext ρ S H ρ' S' H') (r : Rel C ρ S H) {K : PySem.W.Frag} {a : Addr} {xs : List V} (h : SqF K H a xs) : SqF K H' a xs := by
  rcases h with ⟨o, h⟩ | h
  · refine .inl ⟨o, e.frame a _ h fun i _ hi => ?_⟩
    obtain ⟨_, ho', e1, e2⟩ := r.live i a hi
    rw [h] at e1
    cases e1
    cases e2
  · exact .inr h
mutual
theorem RV.ext (e : Ext ρ S H ρ' S' H') (r : Rel C ρ S H) : ∀ (x : IV) (v : V), RV C ρ H x v → RV C ρ' H' x v
  | .non, _, h => by unfold RV at h ⊢; exact h
  | .bl b, _, h => by unfold RV at h ⊢; exact h
  | .int i, _, h => by unfold RV at h ⊢; exact h
  | .str i, _, h => by unfold RV at h ⊢; exact h
  | .ty i, _, h => by unfold RV at h ⊢; exact h
  | .glo i, _, h => by unfold RV at h ⊢; exact h
  | .ref n, _, h => by
    unfold RV at h ⊢
    obtain ⟨a, h1, h2⟩ := h
    exact ⟨a, e.map n a h1, h2⟩
  | .tup xs, _, h => by
    unfold RV at h ⊢
    obtain ⟨a, vs, h1, h2, h3⟩ := h
    exact ⟨a, vs, h1, e.tup r h2, RVs.ext e r xs vs h3⟩
  | .frz xs, _, h => by
    unfold RV at h ⊢
    obtain ⟨a, vs, h1, h2, h3⟩ := h
    exact ⟨a, vs, h1, e.frz r h2, RVs.ext e r xs vs h3⟩
theorem RVs.ext (e : Ext ρ S H ρ' S' H') (r : Rel C ρ S H) : ∀ (xs : List IV) (vs : List V), RVs C ρ H xs vs → RVs C ρ' H' xs vs
  | [], _, h => by unfold RVs at h ⊢; exact h
  | x :: xs, _, h => by
    unfold RVs at h ⊢
    obtain ⟨v, q, h1, h2, h3⟩ := h
    exact ⟨v, q, h1, RV.ext e r x v h2, RVs.ext e r xs q h3⟩
end
end

/-! ### a list of values -/
section
variable {C : Wd} {ρ : Map} {H : Hp}
theorem rvs_nil {vs : List V} : RVs C ρ H [] vs ↔ vs = [] := by unfold RVs; exact Iff.rfl
theorem rvs_cons {x : IV} {xs : List IV} {vs : List V} : RVs C ρ H (x :: xs) vs ↔ ∃ v r, vs = v :: r ∧ RV C ρ H x v ∧ RVs C ρ H xs r := by
  constructor
  · intro h; unfold RVs at h; exact h
  · intro h; unfold RVs; exact h
theorem RVs.length : ∀ {xs : List IV} {vs : List V}, RVs C ρ H xs vs → vs.length = xs.length
  | [], _, h => by rw [rvs_nil.mp h]; rfl
  | x :: xs, _, h => by
    obtain ⟨v, r, rfl, _, h3⟩ := rvs_cons.mp h
    simp [RVs.length h3]
theorem RVs.get : ∀ {xs : List IV} {vs : List V} {i : Nat} {x : IV}, RVs C ρ H xs vs → xs[i]? = some x → ∃ v, vs[i]? = some v ∧ RV C ρ H x v
  | [], _, i, x, _, e => by simp at e
  | y :: ys, _, 0, x, h, e => by
    obtain ⟨v, r, rfl, h2, _⟩ := rvs_cons.mp h
    simp at e
    subst e
    exact ⟨v, rfl, h2⟩
  | y :: ys, _, i + 1, x, h, e => by
    obtain ⟨v, r, rfl, _, h3⟩ := rvs_cons.mp h
    obtain ⟨u, h4, h5⟩ := RVs.get (i := i) h3 (by simpa using e)
    exact ⟨u, by simpa using h4, h5⟩
theorem RVs.append : ∀ {xs ys : List IV} {vs ws : List V}, RVs C ρ H xs vs → RVs C ρ H ys ws → RVs C ρ H (xs ++ ys) (vs ++ ws)
  | [], _, _, _, h, h' => by rw [rvs_nil.mp h]; exact h'
  | x :: xs, _, _, _, h, h' => by
    obtain ⟨v, r, rfl, h2, h3⟩ := rvs_cons.mp h
    exact rvs_cons.mpr ⟨v, r ++ _, rfl, h2, RVs.append h3 h'⟩
theorem RVs.set : ∀ {xs : List IV} {vs : List V} (i : Nat) {x : IV} {v : V}, RVs C ρ H xs vs → RV C ρ H x v → RVs C ρ H (xs.set i x) (vs.set i v)
  | [], _, _, _, _, h, _ => by rw [rvs_nil.mp h]; exact rvs_nil.mpr rfl
  | y :: ys, _, 0, _, _, h, h' => by
    obtain ⟨w, r, rfl, _, h3⟩ := rvs_cons.mp h
    exact rvs_cons.mpr ⟨_, r, rfl, h', h3⟩
  | y :: ys, _, i + 1, _, _, h, h' => by
    obtain ⟨w, r, rfl, h2, h3⟩ := rvs_cons.mp h
    exact rvs_cons.mpr ⟨w, _, rfl, h2, RVs.set i h3 h'⟩
theorem RVs.drop : ∀ {xs : List IV} {vs : List V} (n : Nat), RVs C ρ H xs vs → RVs C ρ H (xs.drop n) (vs.drop n)
  | _, _, 0, h => h
  | [], _, n + 1, h => by rw [rvs_nil.mp h]; exact rvs_nil.mpr rfl
  | y :: ys, _, n + 1, h => by
    obtain ⟨w, r, rfl, _, h3⟩ := rvs_cons.mp h
    exact RVs.drop n h3
theorem RVs.take : ∀ {xs : List IV} {vs : List V} (n : Nat), RVs C ρ H xs vs → RVs C ρ H (xs.take n) (vs.take n)
  | _, _, 0, _ => rvs_nil.mpr rfl
  | [], _, n + 1, h => by rw [rvs_nil.mp h]; exact rvs_nil.mpr rfl
  | y :: ys, _, n + 1, h => by
    obtain ⟨w, r, rfl, h2, h3⟩ := rvs_cons.mp h
    exact rvs_cons.mpr ⟨w, _, rfl, h2, RVs.take n h3⟩
theorem RVs.reverse : ∀ {xs : List IV} {vs : List V}, RVs C ρ H xs vs → RVs C ρ H xs.reverse vs.reverse
  | [], _, h => by rw [rvs_nil.mp h]; exact rvs_nil.mpr rfl
  | y :: ys, _, h => by
    obtain ⟨w, r, rfl, h2, h3⟩ := rvs_cons.mp h
    rw [List.reverse_cons, List.reverse_cons]
    exact (RVs.reverse h3).append (rvs_cons.mpr ⟨w, [], rfl, h2, rvs_nil.mpr rfl⟩)
end

/-! ### the frame's slots -/
structure RE (C : Wd) (ρ : Map) (H : Hp) (E : Env') (σ : L2.St) : Prop where
  len : E.length = σ.length
  at_ : ∀ (i : Nat) (x : IV), E[i]? = some (some x) → ∃ v, σ[i]? = some (some v) ∧ RV C ρ H x v
theorem RE.ext {C : Wd} {ρ ρ' : Map} {S S' : Sto} {H H' : Hp} {E : Env'} {σ : L2.St} (q : RE C ρ H E σ) (e : Ext ρ S H ρ' S' H') (r : Rel C ρ S H) : RE C ρ' H' E σ :=
  ⟨q.len, fun i x h => let ⟨v, h1, h2⟩ := q.at_ i x h; ⟨v, h1, RV.ext e r x v h2⟩⟩
theorem RE.set {C : Wd} {ρ : Map} {H : Hp} {E : Env'} {σ : L2.St} (q : RE C ρ H E σ) (i : Nat) {x : IV} {v : V} (h : RV C ρ H x v) : RE C ρ H (E.set i (some x)) (σ.set i (some v)) := by
  refine ⟨by simp [q.len], fun j y e => ?_⟩
  by_cases hj : j = i
  · subst hj
    have hl : j < E.length := by
      have := (List.getElem?_eq_some_iff.mp e).1
      simpa using this
    rw [List.getElem?_set_self hl] at e
    cases e
    exact ⟨v, by rw [List.getElem?_set_self (by rw [← q.len]; exact hl)], h⟩
  · rw [List.getElem?_set_ne (Ne.symm hj)] at e
    obtain ⟨u, h1, h2⟩ := q.at_ j y e
    exact ⟨u, by rw [List.getElem?_set_ne (Ne.symm hj)]; exact h1, h2⟩
end FX

set_option Elab.async false
set_option linter.all false
set_option maxRecDepth 100000
set_option maxHeartbeats 2000000
set_option autoImplicit false
/-! FX1: what is asked of a result; expressions. -/
namespace FX
open PySem PySem.Spec PyProof.Rows L2

/-- an exception as the store tells it, as the model has it -/
def RX (C : Wd) (ρ : Map) (H : Hp) (e : Ex) (cls : Value) (d : Option Addr) : Prop := cls = .ref (C.G e.cls) ∧ match e.arg with
  | none => d = none
  | some v => ∃ dd x, d = some dd ∧ H dd = some (.xd [(C.F e.cls, x)]) ∧ RV C ρ H v x
/-- what holds behind a result -/
def PR (C : Wd) {α β : Type} (rel : Map → Hp → α → β → Prop) (r : R α) (ρ : Map) (S : Sto) (H : Hp) (Q : β → Hp → Prop) (W : XK) : Prop := match r with
  | .ok v S' => ∀ ρ' H' x, Ext ρ S H ρ' S' H' → Rel C ρ' S' H' → rel ρ' H' v x → Q x H'
  | .ex e S' => ∀ ρ' H' cls d, Ext ρ S H ρ' S' H' → Rel C ρ' S' H' → RX C ρ' H' e cls d → W cls d H'
  | .no => False
theorem PR.bind {C : Wd} {α β γ δ : Type} {rel : Map → Hp → α → β → Prop} {rel' : Map → Hp → γ → δ → Prop} {r : R α} {k : α → Sto → R γ} {ρ : Map} {S : Sto} {H : Hp} {Q : δ → Hp → Prop} {W : XK}
    (h : PR C rel' (r.bind k) ρ S H Q W) : PR C rel r ρ S H (fun x H1 => ∃ ρ1 v S1, Ext ρ S H ρ1 S1 H1 ∧ Rel C ρ1 S1 H1 ∧ rel ρ1 H1 v x ∧ PR C rel' (k v S1) ρ1 S1 H1 Q W) W := by
  cases r with
  | ok v S1 =>
    intro ρ1 H1 x e1 r1 q1
    refine ⟨ρ1, v, S1, e1, r1, q1, ?_⟩
    have h : PR C rel' (k v S1) ρ S H Q W := h
    revert h
    cases k v S1 with
    | ok w S2 => exact fun h ρ2 H2 y e2 r2 q2 => h ρ2 H2 y (e1.trans e2) r2 q2
    | ex e S2 => exact fun h ρ2 H2 c d e2 r2 q2 => h ρ2 H2 c d (e1.trans e2) r2 q2
    | no => exact fun h => h
  | ex e S1 => exact h
  | no => exact h
/-- .. told from a later state -/
theorem PR.ext {C : Wd} {α β : Type} {rel : Map → Hp → α → β → Prop} {r : R α} {ρ ρ1 : Map} {S S1 : Sto} {H H1 : Hp} {Q : β → Hp → Prop} {W : XK} (h : PR C rel r ρ S H Q W) (e1 : Ext ρ S H ρ1 S1 H1) : PR C rel r ρ1 S1 H1 Q W := by
  cases r with
  | ok v S' => exact fun ρ2 H2 y e2 r2 q2 => h ρ2 H2 y (e1.trans e2) r2 q2
  | ex e S2 => exact fun ρ2 H2 c d e2 r2 q2 => h ρ2 H2 c d (e1.trans e2) r2 q2
  | no => exact h
theorem PR.mono {C : Wd} {α β : Type} {rel : Map → Hp → α → β → Prop} {r : R α} {ρ : Map} {S : Sto} {H : Hp} {Q Q' : β → Hp → Prop} {W W' : XK} (h : PR C rel r ρ S H Q W) (hq : ∀ x H, Q x H → Q' x H) (hw : ∀ c d H, W c d H → W' c d H) : PR C rel r ρ S H Q' W' := by
  cases r with
  | ok v S' => exact fun ρ2 H2 y e2 r2 q2 => hq _ _ (h ρ2 H2 y e2 r2 q2)
  | ex e S2 => exact fun ρ2 H2 c d e2 r2 q2 => hw _ _ _ (h ρ2 H2 c d e2 r2 q2)
  | no => exact h
def relB (_ : Map) (_ : Hp) (b c : Bool) : Prop := c = b
abbrev MT := Env' → Sto → R Bool
def tI (C : Wd) (m : ME) (W : WX) : TE := fun σ H Q => ∃ ρ E S, RE C ρ H E σ ∧ Rel C ρ S H ∧ PR C (RV C) (m E S) ρ S H Q (fun c d H' => W c d σ H')
def tT (C : Wd) (m : MT) (W : WX) : TT := fun σ H Q => ∃ ρ E S, RE C ρ H E σ ∧ Rel C ρ S H ∧ PR C relB (m E S) ρ S H Q (fun c d H' => W c d σ H')
def tA (C : Wd) (m : MA) (W : WX) : TA := fun σ H Q => ∃ ρ E S, RE C ρ H E σ ∧ Rel C ρ S H ∧ PR C (RVs C) (m E S) ρ S H Q (fun c d H' => W c d σ H')

section
variable {X : Cx} {C : Wd} {W : WX}
theorem pe_mono {e : Expr} {t t' : TE} (h : PE X e t) (m : ∀ σ H Q, t' σ H Q → t σ H Q) : PE X e t' := ⟨fun pins s σ H Q I q => h.run pins s σ H Q I (m _ _ _ q)⟩
theorem pt_mono {e : Expr} {t t' : TT} (h : PT X e t) (m : ∀ σ H Q, t' σ H Q → t σ H Q) : PT X e t' := ⟨fun pins s σ H Q I q => h.run pins s σ H Q I (m _ _ _ q)⟩
theorem pa_mono {e : List Expr} {t t' : TA} (h : PA X e t) (m : ∀ σ H Q, t' σ H Q → t σ H Q) : PA X e t' := ⟨fun pos pins s σ H Q I q => h.run pos pins s σ H Q I (m _ _ _ q)⟩
theorem pw_mono {e : Expr} {t t' : TT} (h : PW X e t) (m : ∀ σ H Q, t' σ H Q → t σ H Q) : PW X e t' := ⟨fun wh pins s σ H Q I q => h.run wh pins s σ H Q I (m _ _ _ q)⟩

/-! ### names, constants -/
def mC (v : IV) : ME := fun _ S => .ok v S
def mV (i : Nat) : ME := fun E S => match E[i]? with
  | some (some v) => .ok v S
  | _ => .no
theorem PR.now {α β : Type} {rel : Map → Hp → α → β → Prop} {v : α} {ρ : Map} {S : Sto} {H : Hp} {Q : β → Hp → Prop} {W : XK} {x : β} (h : PR C rel (.ok v S) ρ S H Q W) (r : Rel C ρ S H) (q : rel ρ H v x) : Q x H := h ρ H x r.refl r q
theorem qe_var {i : Nat} {x : Str} {pos : Pos} (hN : X.N[i]? = some x) (hv : Vis X.env.scope x) (hd : (x == ("__debug__" : Str)) = false := by decide) (hcd : (x == ("__classdict__" : Str)) = false := by decide) : PE X (.Name x pos) (tI C (mV i) W) := by
  refine pe_mono (pe_var (i := i) hN hv hd hcd) fun σ H Q ⟨ρ, E, S, q, r, h⟩ => ?_
  unfold mV at h
  cases e : E[i]? with
  | none => rw [e] at h; exact h.elim
  | some o =>
    cases o with
    | none => rw [e] at h; exact h.elim
    | some v =>
      rw [e] at h
      obtain ⟨x, h1, h2⟩ := q.at_ i v e
      exact ⟨x, h1, h.now r h2⟩
theorem qe_c {v : IV} {x : V} {e : Expr} (h : PE X e (tC x)) (hv : ∀ ρ H, RV C ρ H v x) : PE X e (tI C (mC v) W) :=
  pe_mono h fun σ H Q ⟨ρ, E, S, q, r, h⟩ => h.now r (hv ρ H)
theorem qe_int {i : Int} {j pos} : PE X (.Constant (.int i) j pos) (tI C (mC (.int i)) W) := qe_c pe_int fun _ _ => by unfold RV; rfl
theorem qe_bl {b : Bool} {j pos} : PE X (.Constant (.bool b) j pos) (tI C (mC (.bl b)) W) := qe_c pe_bl fun _ _ => by unfold RV; rfl
theorem qe_non {j pos} : PE X (.Constant .none j pos) (tI C (mC .non) W) := qe_c pe_non fun _ _ => by unfold RV; rfl
theorem qe_str {x : Str} {j pos} : PE X (.Constant (.str x) j pos) (tI C (mC (.str x)) W) := qe_c pe_str fun _ _ => by unfold RV; rfl
theorem qe_gint {x : Str} {i : Int} {t : Tok} {pos : Pos} (hg : Gl X x) (hm : X.mg x = some (.int i t)) (hd : (x == ("__debug__" : Str)) = false := by decide) : PE X (.Name x pos) (tI C (mC (.int i)) W) :=
  qe_c (pe_glob hg hm (v := .int i) ⟨t, rfl⟩ hd) fun _ _ => by unfold RV; rfl
theorem qe_glo {x : Str} {n : Nat} {pos : Pos} (hg : Gl X x) (hm : X.mg x = some (.ref (C.G n))) (hd : (x == ("__debug__" : Str)) = false := by decide) : PE X (.Name x pos) (tI C (mC (.glo n)) W) :=
  qe_c (pe_glob hg hm (v := .ref (C.G n)) rfl hd) fun _ _ => by unfold RV; rfl

/-! ### two operands -/
abbrev MO := IV → IV → Sto → R IV
def mB (f : MO) (ma mb : ME) : ME := fun E S => (ma E S).bind fun a S1 => (mb E S1).bind fun b S2 => f a b S2
def OpF (C : Wd) (f : MO) (r : R2) : Prop := ∀ ρ S H a b x y Q W, Rel C ρ S H → RV C ρ H a x → RV C ρ H b y → PR C (RV C) (f a b S) ρ S H Q W → r x y H Q
theorem two_mono {ma mb : ME} {f : MO} {r : R2} (hf : OpF C f r) {σ : L2.St} {H : Hp} {Q : VK} (h : tI C (mB f ma mb) W σ H Q) : tOp r (tI C ma W) (tI C mb W) σ H Q := by
  obtain ⟨ρ, E, S, q, r0, h⟩ := h
  refine ⟨ρ, E, S, q, r0, PR.mono (PR.bind (rel := RV C) h) (fun x H1 ⟨ρ1, a, S1, e1, r1, x1, h1⟩ => ?_) fun _ _ _ z => z⟩
  refine ⟨ρ1, E, S1, q.ext e1 r0, r1, PR.mono (PR.bind (rel := RV C) h1) (fun y H2 ⟨ρ2, b, S2, e2, r2, y2, h2⟩ => ?_) fun _ _ _ z => z⟩
  exact hf ρ2 S2 H2 a b x y Q _ r2 (x1.ext e2 r1) y2 h2
theorem qe_op {a b : Expr} {ma mb : ME} {op : Operator} {r : R2} {f : MO} {pos : Pos} (ho : OpR X (binaryOp op) r) (hf : OpF C f r) (ha : PE X a (tI C ma W)) (hb : PE X b (tI C mb W)) : PE X (.BinOp a op b pos) (tI C (mB f ma mb) W) :=
  pe_mono (pe_op ho ha hb) fun _ _ _ h => two_mono hf h
theorem OpF.or {f : MO} {r r' : R2} (h : ∀ ρ S H a b x y Q W, Rel C ρ S H → RV C ρ H a x → RV C ρ H b y → PR C (RV C) (f a b S) ρ S H Q W → r x y H Q ∨ r' x y H Q) : OpF C f (fun x y H Q => r x y H Q ∨ r' x y H Q) := h
theorem rv_int {ρ : Map} {H : Hp} {i : Int} {x : V} : RV C ρ H (.int i) x ↔ x = .int i := by unfold RV; exact Iff.rfl
theorem rv_bl {ρ : Map} {H : Hp} {i : Bool} {x : V} : RV C ρ H (.bl i) x ↔ x = .bl i := by unfold RV; exact Iff.rfl
theorem rv_str {ρ : Map} {H : Hp} {i : Str} {x : V} : RV C ρ H (.str i) x ↔ x = .str i := by unfold RV; exact Iff.rfl
theorem rv_non {ρ : Map} {H : Hp} {x : V} : RV C ρ H .non x ↔ x = .non := by unfold RV; exact Iff.rfl
theorem rv_ty {ρ : Map} {H : Hp} {s : BT} {x : V} : RV C ρ H (.ty s) x ↔ x = .ty s.name := by unfold RV; exact Iff.rfl
theorem rv_glo {ρ : Map} {H : Hp} {n : Nat} {x : V} : RV C ρ H (.glo n) x ↔ x = .ref (C.G n) := by unfold RV; exact Iff.rfl
theorem rv_ref {ρ : Map} {H : Hp} {n : Nat} {x : V} : RV C ρ H (.ref n) x ↔ ∃ a, ρ n = some a ∧ x = .ref a := by unfold RV; exact Iff.rfl
theorem rv_tup {ρ : Map} {H : Hp} {xs : List IV} {x : V} : RV C ρ H (.tup xs) x ↔ ∃ a vs, x = .ref a ∧ SqT C.K H a vs ∧ RVs C ρ H xs vs := by unfold RV; exact Iff.rfl
theorem rv_frz {ρ : Map} {H : Hp} {xs : List IV} {x : V} : RV C ρ H (.frz xs) x ↔ ∃ a vs, x = .ref a ∧ SqF C.K H a vs ∧ RVs C ρ H xs vs := by unfold RV; exact Iff.rfl
theorem cell_at {ρ : Map} {S : Sto} {H : Hp} {n : Nat} {xs : List IV} {x : V} (r : Rel C ρ S H) (h : RV C ρ H (.ref n) x) (g : S.get n = some (.lst xs)) : ∃ a vs, ρ n = some a ∧ x = .ref a ∧ H a = some (.lst vs) ∧ RVs C ρ H xs vs := by
  obtain ⟨a, h1, h2⟩ := rv_ref.mp h
  obtain ⟨b, ho, e1, e2, e3⟩ := r.obj n _ g
  rw [h1] at e1
  cases e1
  obtain ⟨vs, rfl, e4⟩ := e3
  exact ⟨a, vs, h1, h2, e2, e4⟩
/-- a new tuple at p -/
theorem new_tup {ρ : Map} {S : Sto} {H : Hp} {p : Addr} {xs : List IV} {vs : List V} (r : Rel C ρ S H) (hp : H p = none) (h : RVs C ρ H xs vs) : Ext ρ S H ρ S (upd H p (.tup vs)) ∧ Rel C ρ S (upd H p (.tup vs)) ∧ RV C ρ (upd H p (.tup vs)) (.tup xs) (.ref p) := by
  have e : Ext ρ S H ρ S (upd H p (.tup vs)) := ⟨fun _ _ h => h, fun _ _ h _ => h, fun i a h z => absurd (r.live i a h).1 (Nat.not_lt.mpr z), ⟨0, rfl, rfl⟩, fun b o ho _ => by rw [upd_ne (ne_of_none ho hp)]; exact ho,
    fun b hb => by
      by_cases z : b = p
      · rw [z]; exact hp
      · rw [upd_ne z] at hb; exact hb, fun _ _ h => h⟩
  refine ⟨e, ⟨fun i o g => ?_, r.inj, fun i a ha => ?_⟩, ?_⟩
  · obtain ⟨a, ho, e1, e2, e3⟩ := r.obj i o g
    refine ⟨a, ho, e1, by rw [upd_ne (ne_of_none e2 hp)]; exact e2, ?_⟩
    cases o with
    | lst ys =>
      obtain ⟨us, rfl, e4⟩ := e3
      exact ⟨us, rfl, RVs.ext e r _ _ e4⟩
  · obtain ⟨h1, ho, h2, h3⟩ := r.live i a ha
    exact ⟨h1, ho, by rw [upd_ne (ne_of_none h2 hp)]; exact h2, h3⟩
  · exact rv_tup.mpr ⟨p, vs, rfl, SqT.of upd_same, RVs.ext e r _ _ h⟩
/-- a new cell at p -/
def Map.new (ρ : Map) (i : Nat) (p : Addr) : Map := fun j => if j = i then some p else ρ j
theorem new_lst {ρ : Map} {S : Sto} {H : Hp} {p : Addr} {xs : List IV} {vs : List V} (r : Rel C ρ S H) (hp : H p = none) (h : RVs C ρ H xs vs) :
    Ext ρ S H (ρ.new S.top p) (S.new (.lst xs)) (upd H p (.lst vs)) ∧ Rel C (ρ.new S.top p) (S.new (.lst xs)) (upd H p (.lst vs)) ∧ RV C (ρ.new S.top p) (upd H p (.lst vs)) (.ref S.top) (.ref p) := by
  have lt : ∀ i a, ρ i = some a → i < S.top := fun i a h => (r.live i a h).1
  have at_ : ∀ i, i ≠ S.top → ρ.new S.top p i = ρ i := fun i hi => if_neg hi
  have new_ : ρ.new S.top p S.top = some p := if_pos rfl
  have e : Ext ρ S H (ρ.new S.top p) (S.new (.lst xs)) (upd H p (.lst vs)) := by
    refine ⟨fun i a h => by rw [at_ i (Nat.ne_of_lt (lt i a h))]; exact h, fun i a h hl => by rw [at_ i (Nat.ne_of_lt hl)] at h; exact h, fun i a h hl => ?_, ⟨1, rfl, rfl⟩, fun b o ho _ => by rw [upd_ne (ne_of_none ho hp)]; exact ho, fun b hb => ?_, fun i hl h => ?_⟩
    · by_cases hi : i = S.top
      · rw [hi, new_] at h
        cases h
        exact hp
      · rw [at_ i hi] at h
        exact absurd (lt i a h) (Nat.not_lt.mpr hl)
    · by_cases z : b = p
      · rw [z]; exact hp
      · rw [upd_ne z] at hb; exact hb
    · rw [get_new_ne (Nat.ne_of_lt hl)] at h
      exact h
  refine ⟨e, ⟨fun i o g => ?_, fun i j a hi hj => ?_, fun i a ha => ?_⟩, rv_ref.mpr ⟨p, new_, rfl⟩⟩
  · by_cases hi : i = S.top
    · rw [hi, get_new] at g
      cases g
      exact ⟨p, _, by rw [hi]; exact new_, upd_same, vs, rfl, RVs.ext e r _ _ h⟩
    · rw [get_new_ne hi] at g
      obtain ⟨a, ho, e1, e2, e3⟩ := r.obj i o g
      refine ⟨a, ho, by rw [at_ i hi]; exact e1, by rw [upd_ne (ne_of_none e2 hp)]; exact e2, ?_⟩
      cases o with
      | lst ys =>
        obtain ⟨us, rfl, e4⟩ := e3
        exact ⟨us, rfl, RVs.ext e r _ _ e4⟩
  · have key : ∀ i a, ρ i = some a → a ≠ p := fun i a h => by
      obtain ⟨_, ho, h2, _⟩ := r.live i a h
      exact ne_of_none h2 hp
    by_cases h1 : i = S.top <;> by_cases h2 : j = S.top
    · rw [h1, h2]
    · rw [h1, new_] at hi
      rw [at_ j h2] at hj
      cases hi
      exact absurd rfl (key j _ hj)
    · rw [h2, new_] at hj
      rw [at_ i h1] at hi
      cases hj
      exact absurd rfl (key i _ hi)
    · rw [at_ i h1] at hi
      rw [at_ j h2] at hj
      exact r.inj i j a hi hj
  · by_cases hi : i = S.top
    · rw [hi, new_] at ha
      cases ha
      exact ⟨by rw [hi]; exact Nat.lt_succ_self _, _, upd_same, rfl⟩
    · rw [at_ i hi] at ha
      obtain ⟨h1, ho, h2, h3⟩ := r.live i a ha
      exact ⟨Nat.lt_succ_of_lt h1, ho, by rw [upd_ne (ne_of_none h2 hp)]; exact h2, h3⟩
/-- a cell is written -/
theorem put_lst {ρ : Map} {S : Sto} {H : Hp} {n : Nat} {a : Addr} {xs ys : List IV} {vs ws : List V} (r : Rel C ρ S H) (g : S.get n = some (.lst xs)) (ha : ρ n = some a) (hH : H a = some (.lst vs)) (h : RVs C ρ H ys ws) :
    Ext ρ S H ρ (S.put n (.lst ys)) (upd H a (.lst ws)) ∧ Rel C ρ (S.put n (.lst ys)) (upd H a (.lst ws)) := by
  have e : Ext ρ S H ρ (S.put n (.lst ys)) (upd H a (.lst ws)) := by
    refine ⟨fun _ _ h => h, fun _ _ h _ => h, fun i b h z => absurd (r.live i b h).1 (Nat.not_lt.mpr z), ⟨0, rfl, by simp [Sto.put]⟩, fun b o ho hn => ?_, fun b hb => ?_, fun i hl hg => ?_⟩
    · have : b ≠ a := fun z => hn n (by rw [g]; simp) (by rw [z]; exact ha)
      rw [upd_ne this]
      exact ho
    · by_cases z : b = a
      · rw [z, upd_same] at hb
        cases hb
      · rw [upd_ne z] at hb
        exact hb
    · by_cases hi : i = n
      · rw [hi, g]; simp
      · rw [get_put_ne g hi] at hg
        exact hg
  refine ⟨e, ⟨fun i o gi => ?_, r.inj, fun i b hb => ?_⟩⟩
  · by_cases hi : i = n
    · rw [hi, get_put g] at gi
      cases gi
      exact ⟨a, _, by rw [hi]; exact ha, upd_same, ws, rfl, RVs.ext e r _ _ h⟩
    · rw [get_put_ne g hi] at gi
      obtain ⟨b, ho, e1, e2, e3⟩ := r.obj i o gi
      have nb : b ≠ a := fun z => hi (r.inj i n a (by rw [← z]; exact e1) ha)
      refine ⟨b, ho, e1, by rw [upd_ne nb]; exact e2, ?_⟩
      cases o with
      | lst zs =>
        obtain ⟨us, rfl, e4⟩ := e3
        exact ⟨us, rfl, RVs.ext e r _ _ e4⟩
  · obtain ⟨h1, ho, h2, h3⟩ := r.live i b hb
    by_cases z : b = a
    · exact ⟨h1, _, by rw [z]; exact upd_same, rfl⟩
    · exact ⟨h1, ho, by rw [upd_ne z]; exact h2, h3⟩
end
end FX

set_option Elab.async false
set_option linter.all false
set_option maxRecDepth 100000
set_option maxHeartbeats 2000000
set_option autoImplicit false
/-! FX2: operators, tests, arguments, calls, displays, subscripts. -/
namespace FX
open PySem PySem.Spec PyProof.Rows L2
section
variable {X : Cx} {C : Wd} {W : WX}

/-! ### arithmetic -/
def okI (b : Bool) (i : Int) (S : Sto) : R IV := bif b then .ok (.int i) S else .no
theorem okI_pr {b : Bool} {i : Int} {ρ : Map} {S : Sto} {H : Hp} {Q : VK} {W : XK} (r : Rel C ρ S H) (h : PR C (RV C) (okI b i S) ρ S H Q W) : b = true ∧ Q (.int i) H := by
  cases b with
  | false => exact h.elim
  | true => exact ⟨rfl, PR.now (v := IV.int i) h r (rv_int.mpr rfl)⟩
def fullLen (n : Nat) : Bool := Nat.ble n 16777216
theorem fullLen_ok {n : Nat} (h : fullLen n = true) : n ≤ sizeLine := by
  rw [sizeLine_eq]
  exact Nat.le_of_ble_eq_true h
def fAdd : MO := fun a b S => match a, b with
  | .int i, .int j => .ok (.int (i + j)) S
  | .str x, .str y => bif fullLen (x.length + y.length) then .ok (.str (x ++ y)) S else .no
  | .tup xs, .tup ys => bif fullLen (xs.length + ys.length) then .ok (.tup (xs ++ ys)) S else .no
  | .ref n, .ref m => (match S.get n, S.get m with
    | some (.lst xs), some (.lst ys) => bif fullLen (xs.length + ys.length) then .ok (.ref S.top) (S.new (.lst (xs ++ ys))) else .no
    | _, _ => .no)
  | _, _ => .no
def rAddA (K : PySem.W.Frag) : R2 := fun x y H Q => rI0 (fun i j => .int (i + j)) x y H Q ∨ (∃ i j, x = .str i ∧ y = .str j ∧ i.length + j.length ≤ sizeLine ∧ Q (.str (i ++ j)) H) ∨ rCatA K x y H Q ∨ rCat x y H Q
theorem op_addA : OpR X (binaryOp .Add) (rAddA X.K) := op_add.or (op_add_str.or (op_catA.or op_cat))
theorem RVs.nil_iff {ρ : Map} {H : Hp} {xs : List IV} {vs : List V} (h : RVs C ρ H xs vs) : vs = [] ↔ xs = [] := by
  have e := h.length
  constructor
  · intro z
    rw [z] at e
    exact List.length_eq_zero_iff.mp e.symm
  · intro z
    rw [z] at e
    exact List.length_eq_zero_iff.mp e
theorem fAdd_ok : OpF C fAdd (rAddA C.K) := by
  intro ρ S H a b x y Q W r ha hb h
  unfold fAdd at h
  split at h
  · have e1 := rv_int.mp ha
    have e2 := rv_int.mp hb
    exact .inl ⟨_, _, e1, e2, PR.now (v := IV.int _) h r (rv_int.mpr rfl)⟩
  · have e1 := rv_str.mp ha
    have e2 := rv_str.mp hb
    rename_i s t
    cases z : fullLen (s.length + t.length) with
    | false => rw [z] at h; exact h.elim
    | true =>
      rw [z] at h
      exact .inr (.inl ⟨_, _, e1, e2, fullLen_ok z, PR.now (v := IV.str _) h r (rv_str.mpr rfl)⟩)
  · rename_i xs ys
    obtain ⟨p, vs, e1, t1, v1⟩ := rv_tup.mp ha
    obtain ⟨q, ws, e2, t2, v2⟩ := rv_tup.mp hb
    cases z : fullLen (xs.length + ys.length) with
    | false => rw [z] at h; exact h.elim
    | true =>
      rw [z] at h
      refine .inr (.inr (.inl ⟨p, q, vs, ws, e1, e2, t1, t2, by rw [v1.length, v2.length]; exact fullLen_ok z, fun n1 => ?_, fun n1 n2 => ?_, fun n1 n2 u hu => ?_⟩))
      · refine PR.now (v := IV.tup _) h r ?_
        rw [v1.nil_iff.mp n1]
        rw [e2] at hb
        exact hb
      · refine PR.now (v := IV.tup _) h r ?_
        rw [v2.nil_iff.mp n2, List.append_nil]
        rw [e1] at ha
        exact ha
      · obtain ⟨g1, g2, g3⟩ := new_tup (C := C) r hu (v1.append v2)
        exact h _ _ _ g1 g2 g3
  · rename_i n m
    cases e1 : S.get n with
    | none => rw [e1] at h; exact h.elim
    | some o1 =>
      cases o1 with
      | lst xs =>
        cases e2 : S.get m with
        | none => rw [e1, e2] at h; exact h.elim
        | some o2 =>
          cases o2 with
          | lst ys =>
            rw [e1, e2] at h
            have h : PR C (RV C) (bif fullLen (xs.length + ys.length) then R.ok (IV.ref S.top) (S.new (.lst (xs ++ ys))) else .no) ρ S H Q W := h
            obtain ⟨p, vs, _, f1, hp, v1⟩ := cell_at r ha e1
            obtain ⟨q, ws, _, f2, hq, v2⟩ := cell_at r hb e2
            cases z : fullLen (xs.length + ys.length) with
            | false => rw [z] at h; exact h.elim
            | true =>
              rw [z] at h
              refine .inr (.inr (.inr ⟨p, q, vs, ws, f1, f2, hp, hq, by rw [v1.length, v2.length]; exact fullLen_ok z, fun u hu => ?_⟩))
              obtain ⟨g1, g2, g3⟩ := new_lst (C := C) r hu (v1.append v2)
              exact h _ _ _ g1 g2 g3
  · exact h.elim
theorem qe_add {a b : Expr} {ma mb : ME} {pos : Pos} (hK : X.K = C.K) (ha : PE X a (tI C ma W)) (hb : PE X b (tI C mb W)) : PE X (.BinOp a .Add b pos) (tI C (mB fAdd ma mb) W) := qe_op (r := rAddA X.K) op_addA (by rw [hK]; exact fAdd_ok) ha hb

def fSub : MO := fun a b S => match a, b with
  | .int i, .int j => .ok (.int (i - j)) S
  | _, _ => .no
theorem fSub_ok : OpF C fSub (rI0 fun i j => .int (i - j)) := by
  intro ρ S H a b x y Q W r ha hb h
  unfold fSub at h
  split at h
  · exact ⟨_, _, rv_int.mp ha, rv_int.mp hb, PR.now (v := IV.int _) h r (rv_int.mpr rfl)⟩
  · exact h.elim
theorem qe_sub {a b : Expr} {ma mb : ME} {pos : Pos} (ha : PE X a (tI C ma W)) (hb : PE X b (tI C mb W)) : PE X (.BinOp a .Sub b pos) (tI C (mB fSub ma mb) W) := qe_op op_sub fSub_ok ha hb
/-- products of two numbers: together below a million bits -/
def mulFit (i j : Int) : Bool := Nat.blt (i.natAbs.log2 + j.natAbs.log2) 1000000
theorem mulFit_ok {i j : Int} (h : mulFit i j = true) : CMulW i j := Nat.le_of_ble_eq_true h
def repFit (k : Int) (n : Nat) : Bool := decide (-(2 ^ 63) ≤ k) && decide (k < 2 ^ 63) && fullLen (n * k.toNat)
def fMul : MO := fun a b S => match a, b with
  | .int i, .int j => okI (mulFit i j) (i * j) S
  | .ref n, .int k => (match S.get n with
    | some (.lst xs) => bif repFit k xs.length then .ok (.ref S.top) (S.new (.lst (List.replicate k.toNat xs).flatten)) else .no
    | _ => .no)
  | .tup xs, .int k => bif (!xs.isEmpty && decide (2 ≤ k) && decide (k ≤ 1000) && Nat.ble xs.length 1000) then .ok (.tup (List.replicate k.toNat xs).flatten) S else .no
  | _, _ => .no
def rMulA (K : PySem.W.Frag) : R2 := fun x y H Q => rI CMulW (fun i j => .int (i * j)) x y H Q ∨ rRep x y H Q ∨ rRepT K x y H Q
theorem op_mulA : OpR X (binaryOp .Mult) (rMulA X.K) := op_mulW.or (op_rep.or op_repT)
theorem RVs.rep {ρ : Map} {H : Hp} {xs : List IV} {vs : List V} (h : RVs C ρ H xs vs) : ∀ k : Nat, RVs C ρ H (List.replicate k xs).flatten (List.replicate k vs).flatten
  | 0 => rvs_nil.mpr rfl
  | k + 1 => by
    rw [List.replicate_succ, List.replicate_succ, List.flatten_cons, List.flatten_cons]
    exact h.append (RVs.rep h k)
theorem fMul_ok : OpF C fMul (rMulA C.K) := by
  intro ρ S H a b x y Q W r ha hb h
  unfold fMul at h
  split at h
  · rename_i i j
    obtain ⟨h1, h2⟩ := okI_pr r h
    exact .inl ⟨_, _, rv_int.mp ha, rv_int.mp hb, mulFit_ok h1, h2⟩
  · rename_i n k
    split at h
    · rename_i xs e1
      obtain ⟨p, vs, _, f1, hp, v1⟩ := cell_at r ha e1
      cases z : repFit k xs.length with
      | false => rw [z] at h; exact h.elim
      | true =>
        rw [z] at h
        have z' : (decide (-(2 ^ 63) ≤ k) && decide (k < 2 ^ 63) && fullLen (xs.length * k.toNat)) = true := z
        rw [Bool.and_eq_true, Bool.and_eq_true] at z'
        obtain ⟨⟨z1, z2⟩, z3⟩ := z'
        refine .inr (.inl ⟨p, k, vs, f1, rv_int.mp hb, hp, of_decide_eq_true z1, of_decide_eq_true z2, by rw [v1.length]; exact fullLen_ok z3, fun u hu => ?_⟩)
        obtain ⟨g1, g2, g3⟩ := new_lst (C := C) r hu (v1.rep k.toNat)
        exact h _ _ _ g1 g2 g3
    · exact h.elim
  · rename_i xs k
    obtain ⟨p, vs, e1, t1, v1⟩ := rv_tup.mp ha
    cases z : (!xs.isEmpty && decide (2 ≤ k) && decide (k ≤ 1000) && Nat.ble xs.length 1000) with
    | false => rw [z] at h; exact h.elim
    | true =>
      rw [z] at h
      rw [Bool.and_eq_true, Bool.and_eq_true, Bool.and_eq_true] at z
      obtain ⟨⟨⟨z1, z2⟩, z3⟩, z4⟩ := z
      refine .inr (.inr ⟨p, k, vs, e1, rv_int.mp hb, t1, fun n => ?_, of_decide_eq_true z2, of_decide_eq_true z3, by rw [v1.length]; exact Nat.le_of_ble_eq_true z4, fun u hu => ?_⟩)
      · rw [v1.nil_iff.mp n] at z1
        cases z1
      · obtain ⟨g1, g2, g3⟩ := new_tup (C := C) r hu (v1.rep k.toNat)
        exact h _ _ _ g1 g2 g3
  · exact h.elim
theorem qe_mul {a b : Expr} {ma mb : ME} {pos : Pos} (hK : X.K = C.K) (ha : PE X a (tI C ma W)) (hb : PE X b (tI C mb W)) : PE X (.BinOp a .Mult b pos) (tI C (mB fMul ma mb) W) := qe_op (r := rMulA X.K) op_mulA (by rw [hK]; exact fMul_ok) ha hb
/-- //: a positive divisor of at most 9000 bits, or a small negative one -/
def divFit (j : Int) : Bool := decide (0 < j) && Nat.blt j.natAbs.log2 9000
def divFitN (j : Int) : Bool := decide (j < 0) && Nat.blt j.natAbs 1073741824
def fDiv : MO := fun a b S => match a, b with
  | .int i, .int j => bif divFit j then .ok (.int (i / j)) S else okI (divFitN j) (i.fdiv j) S
  | _, _ => .no
def rDivA : R2 := fun x y H Q => rI CDivW (fun i j => .int (i / j)) x y H Q ∨ rI CDivN (fun i j => .int (i.fdiv j)) x y H Q
theorem op_divA : OpR X (binaryOp .FloorDiv) rDivA := op_fdivW.or op_fdivN
theorem fDiv_ok : OpF C fDiv rDivA := by
  intro ρ S H a b x y Q W r ha hb h
  unfold fDiv at h
  split at h
  · rename_i i j
    cases z : divFit j with
    | true =>
      rw [z] at h
      have z' : (decide (0 < j) && Nat.blt j.natAbs.log2 9000) = true := z
      rw [Bool.and_eq_true] at z'
      exact .inl ⟨_, _, rv_int.mp ha, rv_int.mp hb, ⟨of_decide_eq_true z'.1, Nat.le_of_ble_eq_true z'.2⟩, PR.now (v := IV.int _) h r (rv_int.mpr rfl)⟩
    | false =>
      rw [z] at h
      obtain ⟨h1, h2⟩ := okI_pr r h
      have h1' : (decide (j < 0) && Nat.blt j.natAbs 1073741824) = true := h1
      rw [Bool.and_eq_true] at h1'
      exact .inr ⟨_, _, rv_int.mp ha, rv_int.mp hb, ⟨Int.ne_of_lt (of_decide_eq_true h1'.1), Nat.le_of_ble_eq_true h1'.2⟩, h2⟩
  · exact h.elim
theorem qe_div {a b : Expr} {ma mb : ME} {pos : Pos} (ha : PE X a (tI C ma W)) (hb : PE X b (tI C mb W)) : PE X (.BinOp a .FloorDiv b pos) (tI C (mB fDiv ma mb) W) := qe_op op_divA fDiv_ok ha hb
def fMod : MO := fun a b S => match a, b with
  | .int i, .int j => okI (!decide (j = 0)) (i.fmod j) S
  | _, _ => .no
theorem fMod_ok : OpF C fMod (rI (fun _ j => j ≠ 0) fun i j => .int (i.fmod j)) := by
  intro ρ S H a b x y Q W r ha hb h
  unfold fMod at h
  split at h
  · rename_i i j
    obtain ⟨h1, h2⟩ := okI_pr r h
    rw [Bool.not_eq_true'] at h1
    exact ⟨_, _, rv_int.mp ha, rv_int.mp hb, of_decide_eq_false h1, h2⟩
  · exact h.elim
theorem qe_mod {a b : Expr} {ma mb : ME} {pos : Pos} (ha : PE X a (tI C ma W)) (hb : PE X b (tI C mb W)) : PE X (.BinOp a .Mod b pos) (tI C (mB fMod ma mb) W) := qe_op op_modN fMod_ok ha hb
def powFit (i j : Int) : Bool := decide (0 ≤ j) && decide ((Builtin.Int.intBits i : Int) * j ≤ 2 ^ 27)
theorem op_powA : OpR X (binaryOp .Pow) (rI (fun i j => powFit i j = true) fun i j => .int (i ^ j.toNat)) := opI fun _ _ _ _ _ _ _ hc q => by
  have hc' : (decide _ && decide _) = true := hc
  rw [Bool.and_eq_true] at hc'
  exact pow_int (of_decide_eq_true hc'.1) (of_decide_eq_true hc'.2) q
def fPow : MO := fun a b S => match a, b with
  | .int i, .int j => okI (powFit i j) (i ^ j.toNat) S
  | _, _ => .no
theorem fPow_ok : OpF C fPow (rI (fun i j => powFit i j = true) fun i j => .int (i ^ j.toNat)) := by
  intro ρ S H a b x y Q W r ha hb h
  unfold fPow at h
  split at h
  · obtain ⟨h1, h2⟩ := okI_pr r h
    exact ⟨_, _, rv_int.mp ha, rv_int.mp hb, h1, h2⟩
  · exact h.elim
theorem qe_pow {a b : Expr} {ma mb : ME} {pos : Pos} (ha : PE X a (tI C ma W)) (hb : PE X b (tI C mb W)) : PE X (.BinOp a .Pow b pos) (tI C (mB fPow ma mb) W) := qe_op op_powA fPow_ok ha hb
def mU (f : IV → Sto → R IV) (ma : ME) : ME := fun E S => (ma E S).bind f
def fNeg : IV → Sto → R IV := fun a S => match a with
  | .int i => .ok (.int (-i)) S
  | _ => .no
theorem qe_neg {a : Expr} {ma : ME} {pos : Pos} (ha : PE X a (tI C ma W)) : PE X (.UnaryOp .USub a pos) (tI C (mU fNeg ma) W) := by
  refine pe_mono (pe_un un_neg ha) fun σ H Q ⟨ρ, E, S, q, r0, h⟩ => ?_
  refine ⟨ρ, E, S, q, r0, PR.mono (PR.bind (rel := RV C) h) (fun x H1 ⟨ρ1, a, S1, e1, r1, x1, h1⟩ => ?_) fun _ _ _ z => z⟩
  unfold fNeg at h1
  split at h1
  · exact ⟨_, rv_int.mp x1, PR.now (v := IV.int _) h1 r1 (rv_int.mpr rfl)⟩
  · exact h1.elim
end
end FX

set_option Elab.async false
set_option linter.all false
set_option maxRecDepth 100000
set_option maxHeartbeats 2000000
set_option autoImplicit false
/-! FX3: comparisons, tests, arguments, displays, subscripts. -/
namespace FX
open PySem PySem.Spec PyProof.Rows L2
section
variable {X : Cx} {C : Wd} {W : WX}

/-! ### values as data -/
mutual
def toD (S : Sto) : Nat → IV → Option PyData
  | 0, _ => none
  | _ + 1, .non => some .none
  | _ + 1, .bl b => some (.bool b)
  | _ + 1, .int i => some (.int i)
  | _ + 1, .str x => some (.str x)
  | n + 1, .tup xs => (toDs S n xs).map .tuple
  | n + 1, .ref k => match S.get k with
    | some (.lst xs) => (toDs S n xs).map .list
    | none => none
  | _ + 1, .glo _ => none
  | _ + 1, .frz _ => none
  | _ + 1, .ty _ => none
def toDs (S : Sto) : Nat → List IV → Option (List PyData)
  | 0, _ => none
  | _ + 1, [] => some []
  | n + 1, x :: xs => match toD S n x with
    | some d => (match toDs S n xs with
      | some ds => some (d :: ds)
      | none => none)
    | none => none
end

mutual
theorem toD_ok {ρ : Map} {S : Sto} {H : Hp} (r : Rel C ρ S H) : ∀ (n : Nat) (x : IV) (v : V) (d : PyData), toD S n x = some d → RV C ρ H x v → Dp C.K H v d
  | 0, _, _, _, h, _ => by unfold toD at h; cases h
  | n + 1, .non, v, d, h, hv => by
    unfold toD at h; cases h
    rw [rv_non.mp hv]; exact .non
  | n + 1, .bl b, v, d, h, hv => by
    unfold toD at h; cases h
    rw [rv_bl.mp hv]; exact .bl b
  | n + 1, .int b, v, d, h, hv => by
    unfold toD at h; cases h
    rw [rv_int.mp hv]; exact .int b
  | n + 1, .str b, v, d, h, hv => by
    unfold toD at h; cases h
    rw [rv_str.mp hv]; exact .str b
  | n + 1, .tup xs, v, d, h, hv => by
    unfold toD at h
    obtain ⟨ds, h1, rfl⟩ := Option.map_eq_some_iff.mp h
    obtain ⟨a, vs, rfl, h2, h3⟩ := rv_tup.mp hv
    exact .tup h2 (toDs_ok r n xs vs ds h1 h3)
  | n + 1, .ref k, v, d, h, hv => by
    unfold toD at h
    cases g : S.get k with
    | none => rw [g] at h; cases h
    | some o =>
      cases o with
      | lst xs =>
        rw [g] at h
        obtain ⟨ds, h1, rfl⟩ := Option.map_eq_some_iff.mp h
        obtain ⟨a, vs, _, rfl, h2, h3⟩ := cell_at r hv g
        exact .lst (SqL.of h2) (toDs_ok r n xs vs ds h1 h3)
  | n + 1, .glo b, v, d, h, hv => by unfold toD at h; cases h
  | n + 1, .frz b, v, d, h, hv => by unfold toD at h; cases h
  | n + 1, .ty b, v, d, h, hv => by unfold toD at h; cases h
theorem toDs_ok {ρ : Map} {S : Sto} {H : Hp} (r : Rel C ρ S H) : ∀ (n : Nat) (xs : List IV) (vs : List V) (ds : List PyData), toDs S n xs = some ds → RVs C ρ H xs vs → DpAll C.K H vs ds
  | 0, _, _, _, h, _ => by unfold toDs at h; cases h
  | n + 1, [], vs, ds, h, hv => by
    unfold toDs at h; cases h
    rw [rvs_nil.mp hv]; exact .nil
  | n + 1, x :: xs, vs, ds, h, hv => by
    unfold toDs at h
    obtain ⟨v, q, rfl, h1, h2⟩ := rvs_cons.mp hv
    cases e1 : toD S n x with
    | none => rw [e1] at h; cases h
    | some d =>
      cases e2 : toDs S n xs with
      | none => rw [e1, e2] at h; cases h
      | some es =>
        rw [e1, e2] at h
        cases h
        exact .cons (toD_ok r n x v d e1 h1) (toDs_ok r n xs q es e2 h2)
end
def fuelD : Nat := 1000000
def dataOf (S : Sto) (x : IV) : Option PyData := match toD S fuelD x with
  | some d => bif SeqAt.shaped d then some d else none
  | none => none
theorem dataOf_ok {ρ : Map} {S : Sto} {H : Hp} {x : IV} {v : V} {d : PyData} (r : Rel C ρ S H) (h : dataOf S x = some d) (hv : RV C ρ H x v) : Dp C.K H v d ∧ SeqAt.shaped d = true := by
  unfold dataOf at h
  cases e : toD S fuelD x with
  | none => rw [e] at h; cases h
  | some d' =>
    rw [e] at h
    cases z : SeqAt.shaped d' with
    | false => simp [z] at h
    | true =>
      simp [z] at h
      subst h
      exact ⟨toD_ok r _ x v d' e hv, z⟩

/-! ### comparisons -/
def fCmpI (p : Int → Int → Bool) : MO := fun a b S => match a, b with
  | .int i, .int j => .ok (.bl (p i j)) S
  | _, _ => .no
theorem fCmpI_ok (p : Int → Int → Bool) : OpF C (fCmpI p) (rI0 fun i j => .bl (p i j)) := by
  intro ρ S H a b x y Q W r ha hb h
  unfold fCmpI at h
  split at h
  · exact ⟨_, _, rv_int.mp ha, rv_int.mp hb, PR.now (v := IV.bl _) h r (rv_bl.mpr rfl)⟩
  · exact h.elim
abbrev fLt : MO := fCmpI fun i j => decide (i < j)
abbrev fLe : MO := fCmpI fun i j => decide (i ≤ j)
abbrev fGt : MO := fCmpI fun i j => decide (j < i)
abbrev fGe : MO := fCmpI fun i j => decide (j ≤ i)
def rEqA (K : PySem.W.Frag) : R2 := fun x y H Q => rEq x y H Q ∨ rEqD K x y H Q
def rNeA (K : PySem.W.Frag) : R2 := fun x y H Q => rNe x y H Q ∨ rNeD K x y H Q
theorem op_eqA (hu : X.A.units + 64 < cLine) : OpR X (compareOp .Eq) (rEqA X.K) := op_eq.or (op_eqD hu)
theorem op_neA (hu : X.A.units + 64 < cLine) : OpR X (compareOp .NotEq) (rNeA X.K) := op_ne.or (op_neD hu)
def eqIV (S : Sto) (a b : IV) : Option Bool := match a, b with
  | .int i, .int j => some (decide (i = j))
  | a, b => match dataOf S a, dataOf S b with
    | some d, some e => some (PyData.eqv d e)
    | _, _ => none
def fEq : MO := fun a b S => match eqIV S a b with
  | some c => .ok (.bl c) S
  | none => .no
def fNe : MO := fun a b S => match eqIV S a b with
  | some c => .ok (.bl (!c)) S
  | none => .no
theorem eqIV_ok {ρ : Map} {S : Sto} {H : Hp} {a b : IV} {x y : V} {c : Bool} (r : Rel C ρ S H) (ha : RV C ρ H a x) (hb : RV C ρ H b y) (h : eqIV S a b = some c) :
    (scal x y = true ∧ c = decide (x = y)) ∨ ∃ d e, Dp C.K H x d ∧ Dp C.K H y e ∧ SeqAt.shaped d = true ∧ SeqAt.shaped e = true ∧ c = PyData.eqv d e := by
  unfold eqIV at h
  split at h
  · rename_i i j
    have e1 := rv_int.mp ha
    have e2 := rv_int.mp hb
    subst e1 e2
    refine .inl ⟨rfl, ?_⟩
    have h := Option.some.inj h
    rw [← h, dec_int]
    exact (Bool.beq_eq_decide_eq i j).symm
  · split at h
    · rename_i d e h1 h2
      obtain ⟨p1, p2⟩ := dataOf_ok r h1 ha
      obtain ⟨q1, q2⟩ := dataOf_ok r h2 hb
      exact .inr ⟨d, e, p1, q1, p2, q2, (Option.some.inj h).symm⟩
    · cases h
theorem fEq_ok : OpF C fEq (rEqA C.K) := by
  intro ρ S H a b x y Q W r ha hb h
  unfold fEq at h
  cases e : eqIV S a b with
  | none => rw [e] at h; exact h.elim
  | some c =>
    rw [e] at h
    have q : Q (.bl c) H := PR.now (v := IV.bl _) h r (rv_bl.mpr rfl)
    rcases eqIV_ok r ha hb e with ⟨h1, h2⟩ | ⟨d, e, h1, h2, h3, h4, h5⟩
    · rw [h2] at q
      exact .inl ⟨h1, q⟩
    · rw [h5] at q
      exact .inr ⟨d, e, h1, h2, h3, h4, q⟩
theorem fNe_ok : OpF C fNe (rNeA C.K) := by
  intro ρ S H a b x y Q W r ha hb h
  unfold fNe at h
  cases e : eqIV S a b with
  | none => rw [e] at h; exact h.elim
  | some c =>
    rw [e] at h
    have q : Q (.bl (!c)) H := PR.now (v := IV.bl _) h r (rv_bl.mpr rfl)
    rcases eqIV_ok r ha hb e with ⟨h1, h2⟩ | ⟨d, e, h1, h2, h3, h4, h5⟩
    · rw [h2] at q
      exact .inl ⟨h1, q⟩
    · rw [h5] at q
      exact .inr ⟨d, e, h1, h2, h3, h4, q⟩
/-- x in xs: flat things, or any data in a list -/
def flatI : IV → Bool
  | .non => true
  | .bl _ => true
  | .int _ => true
  | .str _ => true
  | _ => false
def toVf : IV → V
  | .bl b => .bl b
  | .int i => .int i
  | .str s => .str s
  | _ => .non
theorem flat_rv {ρ : Map} {H : Hp} {x : IV} {v : V} (f : flatI x = true) (h : RV C ρ H x v) : v = toVf x ∧ flatV v = true := by
  cases x with
  | non => rw [rv_non.mp h]; exact ⟨rfl, rfl⟩
  | bl b => rw [rv_bl.mp h]; exact ⟨rfl, rfl⟩
  | int b => rw [rv_int.mp h]; exact ⟨rfl, rfl⟩
  | str b => rw [rv_str.mp h]; exact ⟨rfl, rfl⟩
  | _ => cases f
theorem flat_rvs {ρ : Map} {H : Hp} : ∀ {xs : List IV} {vs : List V}, xs.all flatI = true → RVs C ρ H xs vs → vs = xs.map toVf ∧ vs.all flatV = true
  | [], vs, _, h => by rw [rvs_nil.mp h]; exact ⟨rfl, rfl⟩
  | x :: xs, vs, f, h => by
    obtain ⟨v, q, rfl, h1, h2⟩ := rvs_cons.mp h
    rw [List.all_cons, Bool.and_eq_true] at f
    obtain ⟨e1, f1⟩ := flat_rv f.1 h1
    obtain ⟨e2, f2⟩ := flat_rvs f.2 h2
    exact ⟨by rw [e1, e2]; rfl, by rw [List.all_cons, f1, f2]; rfl⟩
def itemsOf (S : Sto) : IV → Option (List IV)
  | .tup xs => some xs
  | .frz xs => some xs
  | .ref n => match S.get n with
    | some (.lst xs) => some xs
    | none => none
  | _ => none
theorem itemsOf_ok {ρ : Map} {S : Sto} {H : Hp} {x : IV} {v : V} {xs : List IV} (r : Rel C ρ S H) (h : itemsOf S x = some xs) (hv : RV C ρ H x v) : ∃ a vs, v = .ref a ∧ (SqL C.K H a vs ∨ SqT C.K H a vs) ∧ RVs C ρ H xs vs := by
  cases x with
  | tup ys =>
    cases h
    obtain ⟨a, vs, e, t, q⟩ := rv_tup.mp hv
    exact ⟨a, vs, e, .inr t, q⟩
  | frz ys =>
    cases h
    obtain ⟨a, vs, e, t, q⟩ := rv_frz.mp hv
    exact ⟨a, vs, e, .inl t.sq, q⟩
  | ref n =>
    unfold itemsOf at h
    dsimp only at h
    cases g : S.get n with
    | none => rw [g] at h; cases h
    | some o =>
      cases o with
      | lst ys =>
        rw [g] at h
        cases h
        obtain ⟨a, vs, _, e, t, q⟩ := cell_at r hv g
        exact ⟨a, vs, e, .inl (SqL.of t), q⟩
  | _ => cases h
def inIV (S : Sto) (a b : IV) : Option Bool := match itemsOf S b with
  | none => none
  | some xs => bif (flatI a && xs.all flatI) then some (inV (toVf a) (xs.map toVf)) else match b, dataOf S a, dataOf S b with
    | .ref _, some d, some (.list ds) => some (ds.any fun z => PyData.eqv z d)
    | _, _, _ => none
def rInA (K : PySem.W.Frag) : R2 := fun x y H Q => rIn K false x y H Q ∨ rInD K x y H Q
def rNotInA (K : PySem.W.Frag) : R2 := fun x y H Q => rIn K true x y H Q ∨ rNotInD K x y H Q
theorem op_inA (hu : X.A.units + 65 < cLine) : OpR X (compareOp .In) (rInA X.K) := op_in_seq.or (op_inD hu)
theorem op_notInA (hu : X.A.units + 65 < cLine) : OpR X (compareOp .NotIn) (rNotInA X.K) := op_notIn_seq.or (op_notInD hu)
theorem inIV_ok {ρ : Map} {S : Sto} {H : Hp} {a b : IV} {x y : V} {c : Bool} (r : Rel C ρ S H) (ha : RV C ρ H a x) (hb : RV C ρ H b y) (h : inIV S a b = some c) :
    (∃ p xs, y = .ref p ∧ (SqL C.K H p xs ∨ SqT C.K H p xs) ∧ flatV x = true ∧ xs.all flatV = true ∧ c = inV x xs) ∨
      ∃ d ds, Dp C.K H x d ∧ Dp C.K H y (.list ds) ∧ SeqAt.shaped d = true ∧ SeqAt.shaped (.list ds) = true ∧ c = ds.any fun z => PyData.eqv z d := by
  unfold inIV at h
  cases e : itemsOf S b with
  | none => rw [e] at h; cases h
  | some xs =>
    rw [e] at h
    obtain ⟨p, vs, e1, t, q⟩ := itemsOf_ok r e hb
    cases z : (flatI a && xs.all flatI) with
    | true =>
      simp only [z, cond_true] at h
      rw [Bool.and_eq_true] at z
      obtain ⟨f1, f2⟩ := flat_rv z.1 ha
      obtain ⟨g1, g2⟩ := flat_rvs z.2 q
      refine .inl ⟨p, vs, e1, t, f2, g2, ?_⟩
      rw [g1, f1]
      exact (Option.some.inj h).symm
    | false =>
      simp only [z, cond_false] at h
      split at h
      · rename_i n d ds h1 h2
        obtain ⟨p1, p2⟩ := dataOf_ok r h1 ha
        obtain ⟨q1, q2⟩ := dataOf_ok r h2 hb
        exact .inr ⟨d, ds, p1, q1, p2, q2, (Option.some.inj h).symm⟩
      · cases h
def fIn : MO := fun a b S => match inIV S a b with
  | some c => .ok (.bl c) S
  | none => .no
def fNotIn : MO := fun a b S => match inIV S a b with
  | some c => .ok (.bl (!c)) S
  | none => .no
theorem fIn_ok : OpF C fIn (rInA C.K) := by
  intro ρ S H a b x y Q W r ha hb h
  unfold fIn at h
  cases e : inIV S a b with
  | none => rw [e] at h; exact h.elim
  | some c =>
    rw [e] at h
    have q : Q (.bl c) H := PR.now (v := IV.bl _) h r (rv_bl.mpr rfl)
    rcases inIV_ok r ha hb e with ⟨p, xs, h1, h2, h3, h4, h5⟩ | ⟨d, ds, h1, h2, h3, h4, h5⟩
    · rw [h5] at q
      exact .inl ⟨p, xs, h1, h2, h3, h4, q⟩
    · rw [h5] at q
      exact .inr ⟨d, ds, h1, h2, h3, h4, q⟩
theorem fNotIn_ok : OpF C fNotIn (rNotInA C.K) := by
  intro ρ S H a b x y Q W r ha hb h
  unfold fNotIn at h
  cases e : inIV S a b with
  | none => rw [e] at h; exact h.elim
  | some c =>
    rw [e] at h
    have q : Q (.bl (!c)) H := PR.now (v := IV.bl _) h r (rv_bl.mpr rfl)
    rcases inIV_ok r ha hb e with ⟨p, xs, h1, h2, h3, h4, h5⟩ | ⟨d, ds, h1, h2, h3, h4, h5⟩
    · rw [h5] at q
      exact .inl ⟨p, xs, h1, h2, h3, h4, q⟩
    · rw [h5] at q
      exact .inr ⟨d, ds, h1, h2, h3, h4, q⟩
/-- is None -/
def isNon : IV → Bool
  | .non => true
  | _ => false
def fIsN : MO := fun a b S => match b with
  | .non => .ok (.bl (isNon a)) S
  | _ => .no
def fNotN : MO := fun a b S => match b with
  | .non => .ok (.bl (!isNon a)) S
  | _ => .no
theorem isNon_ok {ρ : Map} {H : Hp} {a : IV} {x : V} (h : RV C ρ H a x) : decide (x = .non) = isNon a := by
  cases a with
  | non => rw [rv_non.mp h]; rfl
  | bl _ => rw [rv_bl.mp h]; rfl
  | int _ => rw [rv_int.mp h]; rfl
  | str _ => rw [rv_str.mp h]; rfl
  | glo _ => rw [rv_glo.mp h]; rfl
  | ty _ => rw [rv_ty.mp h]; rfl
  | ref _ => obtain ⟨_, _, e⟩ := rv_ref.mp h; rw [e]; rfl
  | tup _ => obtain ⟨_, _, e, _⟩ := rv_tup.mp h; rw [e]; rfl
  | frz _ => obtain ⟨_, _, e, _⟩ := rv_frz.mp h; rw [e]; rfl
theorem fIsN_ok : OpF C fIsN (fun x y H Q => y = .non ∧ Q (.bl (decide (x = .non))) H) := by
  intro ρ S H a b x y Q W r ha hb h
  unfold fIsN at h
  split at h
  · refine ⟨rv_non.mp hb, ?_⟩
    rw [isNon_ok ha]
    exact PR.now (v := IV.bl _) h r (rv_bl.mpr rfl)
  · exact h.elim
theorem fNotN_ok : OpF C fNotN (fun x y H Q => y = .non ∧ Q (.bl (!decide (x = .non))) H) := by
  intro ρ S H a b x y Q W r ha hb h
  unfold fNotN at h
  split at h
  · refine ⟨rv_non.mp hb, ?_⟩
    rw [isNon_ok ha]
    exact PR.now (v := IV.bl _) h r (rv_bl.mpr rfl)
  · exact h.elim

/-! ### comparisons as values and tests -/
theorem qe_cmp {a b : Expr} {ma mb : ME} {op : CmpOp} {r : R2} {f : MO} {pos : Pos} (ho : OpR X (compareOp op) r) (hf : OpF C f r) (ha : PE X a (tI C ma W)) (hb : PE X b (tI C mb W)) (hm : behindInMarks op b = false) : PE X (.Compare a [op] [b] pos) (tI C (mB f ma mb) W) :=
  pe_mono (pe_cmpR ho ha hb hm) fun _ _ _ h => two_mono hf h
/-- a truth value as a test -/
def mTB (m : ME) : MT := fun E S => (m E S).bind fun v S1 => match v with
  | .bl b => .ok b S1
  | _ => .no
theorem tb_mono {m : ME} {σ : L2.St} {H : Hp} {Q : Bool → Hp → Prop} (h : tT C (mTB m) W σ H Q) : tTest (tI C m W) σ H Q := by
  obtain ⟨ρ, E, S, q, r0, h⟩ := h
  refine ⟨ρ, E, S, q, r0, PR.mono (PR.bind (rel := RV C) h) (fun x H1 ⟨ρ1, a, S1, e1, r1, x1, h1⟩ => ?_) fun _ _ _ z => z⟩
  split at h1
  · exact ⟨_, rv_bl.mp x1, PR.now (rel := relB) h1 r1 rfl⟩
  · exact h1.elim
theorem qt_cmp {a b : Expr} {ma mb : ME} {op : CmpOp} {r : R2} {f : MO} {pos : Pos} (ho : OpR X (compareOp op) r) (hf : OpF C f r) (ha : PE X a (tI C ma W)) (hb : PE X b (tI C mb W)) (hm : behindInMarks op b = false) : PT X (.Compare a [op] [b] pos) (tT C (mTB (mB f ma mb)) W) :=
  pt_mono (pt_cmpR ho ha hb hm) fun σ H Q h => by
    obtain ⟨ρ, E, S, q, r0, h⟩ := h
    refine two_mono (C := C) (W := W) hf ⟨ρ, E, S, q, r0, PR.mono (PR.bind (rel := RV C) h) (fun x H1 ⟨ρ1, a, S1, e1, r1, x1, h1⟩ => ?_) fun _ _ _ z => z⟩
    split at h1
    · exact ⟨_, rv_bl.mp x1, PR.now (rel := relB) h1 r1 rfl⟩
    · exact h1.elim
theorem qt_val {e : Expr} {m : ME} (h : PE X e (tI C m W)) (he : ∀ whole, isTrue e X.env whole = (do let v ← whole; standAt e.pos; holding [v] (truthy v)) := by intro _; rfl) : PT X e (tT C (mTB m) W) :=
  pt_mono (pt_val h he) fun _ _ _ h => tb_mono h
/-- truth of any value -/
def truI (S : Sto) : IV → Option Bool
  | .non => some false
  | .bl b => some b
  | .int i => some (i != 0)
  | .tup xs => some (!xs.isEmpty)
  | .ref n => (match S.get n with
    | some (.lst xs) => some (!xs.isEmpty)
    | none => none)
  | _ => none
def mTru (m : ME) : MT := fun E S => (m E S).bind fun v S1 => match truI S1 v with
  | some b => .ok b S1
  | none => .no
theorem RVs.isEmpty {ρ : Map} {H : Hp} {xs : List IV} {vs : List V} (h : RVs C ρ H xs vs) : vs.isEmpty = xs.isEmpty := by
  cases xs with
  | nil => rw [rvs_nil.mp h]; rfl
  | cons x xs => obtain ⟨v, q, rfl, _⟩ := rvs_cons.mp h; rfl
theorem qt_truth {e : Expr} {m : ME} (hK : X.K = C.K) (h : PE X e (tI C m W)) (he : ∀ whole, isTrue e X.env whole = (do let v ← whole; standAt e.pos; holding [v] (truthy v)) := by intro _; rfl) : PT X e (tT C (mTru m) W) :=
  pt_mono (pt_truth h he) fun σ H Q h => by
    obtain ⟨ρ, E, S, q, r0, h⟩ := h
    refine ⟨ρ, E, S, q, r0, PR.mono (PR.bind (rel := RV C) h) (fun x H1 ⟨ρ1, a, S1, e1, r1, x1, h1⟩ => ?_) fun _ _ _ z => z⟩
    rw [hK]
    cases z : truI S1 a with
    | none => rw [z] at h1; exact h1.elim
    | some b =>
      rw [z] at h1
      refine ⟨b, ?_, PR.now (rel := relB) h1 r1 rfl⟩
      cases a with
      | non => cases z; rw [rv_non.mp x1]; rfl
      | bl _ => cases z; rw [rv_bl.mp x1]; rfl
      | int _ => cases z; rw [rv_int.mp x1]; rfl
      | tup xs =>
        cases z
        obtain ⟨a, vs, e, t, v⟩ := rv_tup.mp x1
        rw [e]
        exact .inr (.inl ⟨vs, t, by rw [v.isEmpty]⟩)
      | ref n =>
        unfold truI at z
        dsimp only at z
        cases g : S1.get n with
        | none => rw [g] at z; cases z
        | some o =>
          cases o with
          | lst xs =>
            rw [g] at z
            cases z
            obtain ⟨a, vs, _, e, t, v⟩ := cell_at r1 x1 g
            rw [e]
            exact .inl ⟨vs, SqL.of t, by rw [v.isEmpty]⟩
      | _ => cases z
def mAndT (t u : MT) : MT := fun E S => (t E S).bind fun b S1 => bif b then u E S1 else .ok false S1
def mOrT (t u : MT) : MT := fun E S => (t E S).bind fun b S1 => bif b then .ok true S1 else u E S1
def mNotT (t : MT) : MT := fun E S => (t E S).bind fun b S1 => .ok (!b) S1
theorem qw_and1 {a : Expr} {t : MT} {pos : Pos} (ha : PT X a (tT C t W)) : PW X (.BoolOp .And [a] pos) (tT C t W) := pw_and1 ha
theorem qw_or1 {a : Expr} {t : MT} {pos : Pos} (ha : PT X a (tT C t W)) : PW X (.BoolOp .Or [a] pos) (tT C t W) := pw_or1 ha
theorem qw_and {a b : Expr} {rest : List Expr} {t u : MT} {pos : Pos} (ha : PT X a (tT C t W)) (hb : PW X (.BoolOp .And (b :: rest) pos) (tT C u W)) : PW X (.BoolOp .And (a :: b :: rest) pos) (tT C (mAndT t u) W) :=
  pw_mono (pw_and ha hb) fun σ H Q h => by
    obtain ⟨ρ, E, S, q, r0, h⟩ := h
    refine ⟨ρ, E, S, q, r0, PR.mono (PR.bind (rel := relB) h) (fun x H1 ⟨ρ1, a, S1, e1, r1, x1, h1⟩ => ?_) fun _ _ _ z => z⟩
    cases x1
    cases x with
    | true => exact ⟨ρ1, E, S1, q.ext e1 r0, r1, h1⟩
    | false => exact PR.now (rel := relB) h1 r1 rfl
theorem qw_or {a b : Expr} {rest : List Expr} {t u : MT} {pos : Pos} (ha : PT X a (tT C t W)) (hb : PW X (.BoolOp .Or (b :: rest) pos) (tT C u W)) : PW X (.BoolOp .Or (a :: b :: rest) pos) (tT C (mOrT t u) W) :=
  pw_mono (pw_or ha hb) fun σ H Q h => by
    obtain ⟨ρ, E, S, q, r0, h⟩ := h
    refine ⟨ρ, E, S, q, r0, PR.mono (PR.bind (rel := relB) h) (fun x H1 ⟨ρ1, a, S1, e1, r1, x1, h1⟩ => ?_) fun _ _ _ z => z⟩
    cases x1
    cases x with
    | false => exact ⟨ρ1, E, S1, q.ext e1 r0, r1, h1⟩
    | true => exact PR.now (rel := relB) h1 r1 rfl
theorem qt_w {e : Expr} {t : MT} (h : PW X e (tT C t W)) : PT X e (tT C t W) := h.pt
theorem qt_not {a : Expr} {t : MT} {pos : Pos} (ha : PT X a (tT C t W)) : PT X (.UnaryOp .Not a pos) (tT C (mNotT t) W) :=
  pt_mono (pt_not ha) fun σ H Q h => by
    obtain ⟨ρ, E, S, q, r0, h⟩ := h
    refine ⟨ρ, E, S, q, r0, PR.mono (PR.bind (rel := relB) h) (fun x H1 ⟨ρ1, a, S1, e1, r1, x1, h1⟩ => ?_) fun _ _ _ z => z⟩
    cases x1
    exact PR.now (rel := relB) h1 r1 rfl
/-- and, or, not as values -/
def mAndV (ma mb : ME) : ME := fun E S => (ma E S).bind fun v S1 => match v with
  | .bl true => mb E S1
  | .bl false => .ok (.bl false) S1
  | _ => .no
def mOrV (ma mb : ME) : ME := fun E S => (ma E S).bind fun v S1 => match v with
  | .bl false => mb E S1
  | .bl true => .ok (.bl true) S1
  | _ => .no
def fNotV : IV → Sto → R IV := fun v S => match v with
  | .bl b => .ok (.bl (!b)) S
  | _ => .no
theorem qe_one {op} {a : Expr} {m : ME} {pos : Pos} (h : PE X a (tI C m W)) : PE X (.BoolOp op [a] pos) (tI C m W) := pe_one h
theorem qe_and {a b : Expr} {rest : List Expr} {ma mb : ME} {pos : Pos} (ha : PE X a (tI C ma W)) (hb : PE X (.BoolOp .And (b :: rest) pos) (tI C mb W)) : PE X (.BoolOp .And (a :: b :: rest) pos) (tI C (mAndV ma mb) W) :=
  pe_mono (pe_and ha hb) fun σ H Q h => by
    obtain ⟨ρ, E, S, q, r0, h⟩ := h
    refine ⟨ρ, E, S, q, r0, PR.mono (PR.bind (rel := RV C) h) (fun x H1 ⟨ρ1, a, S1, e1, r1, x1, h1⟩ => ?_) fun _ _ _ z => z⟩
    split at h1
    · exact ⟨true, rv_bl.mp x1, by rw [if_pos rfl]; exact ⟨ρ1, E, S1, q.ext e1 r0, r1, h1⟩⟩
    · exact ⟨false, rv_bl.mp x1, by rw [if_neg Bool.false_ne_true]; exact PR.now (v := IV.bl _) h1 r1 (rv_bl.mpr rfl)⟩
    · exact h1.elim
theorem qe_or {a b : Expr} {rest : List Expr} {ma mb : ME} {pos : Pos} (ha : PE X a (tI C ma W)) (hb : PE X (.BoolOp .Or (b :: rest) pos) (tI C mb W)) : PE X (.BoolOp .Or (a :: b :: rest) pos) (tI C (mOrV ma mb) W) :=
  pe_mono (pe_or ha hb) fun σ H Q h => by
    obtain ⟨ρ, E, S, q, r0, h⟩ := h
    refine ⟨ρ, E, S, q, r0, PR.mono (PR.bind (rel := RV C) h) (fun x H1 ⟨ρ1, a, S1, e1, r1, x1, h1⟩ => ?_) fun _ _ _ z => z⟩
    split at h1
    · exact ⟨false, rv_bl.mp x1, by rw [if_neg Bool.false_ne_true]; exact ⟨ρ1, E, S1, q.ext e1 r0, r1, h1⟩⟩
    · exact ⟨true, rv_bl.mp x1, by rw [if_pos rfl]; exact PR.now (v := IV.bl _) h1 r1 (rv_bl.mpr rfl)⟩
    · exact h1.elim
theorem qe_not {a : Expr} {ma : ME} {pos : Pos} (ha : PE X a (tI C ma W)) : PE X (.UnaryOp .Not a pos) (tI C (mU fNotV ma) W) :=
  pe_mono (pe_not ha) fun σ H Q h => by
    obtain ⟨ρ, E, S, q, r0, h⟩ := h
    refine ⟨ρ, E, S, q, r0, PR.mono (PR.bind (rel := RV C) h) (fun x H1 ⟨ρ1, a, S1, e1, r1, x1, h1⟩ => ?_) fun _ _ _ z => z⟩
    unfold fNotV at h1
    split at h1
    · exact ⟨_, rv_bl.mp x1, PR.now (v := IV.bl _) h1 r1 (rv_bl.mpr rfl)⟩
    · exact h1.elim
def mIf (t : MT) (ma mb : ME) : ME := fun E S => (t E S).bind fun b S1 => bif b then ma E S1 else mb E S1
theorem qe_if {c a b : Expr} {t : MT} {ma mb : ME} {pos : Pos} (hc : PT X c (tT C t W)) (ha : PE X a (tI C ma W)) (hb : PE X b (tI C mb W)) : PE X (.IfExp c a b pos) (tI C (mIf t ma mb) W) :=
  pe_mono (pe_ifExp hc ha hb) fun σ H Q h => by
    obtain ⟨ρ, E, S, q, r0, h⟩ := h
    refine ⟨ρ, E, S, q, r0, PR.mono (PR.bind (rel := relB) h) (fun x H1 ⟨ρ1, a, S1, e1, r1, x1, h1⟩ => ?_) fun _ _ _ z => z⟩
    cases x1
    cases x with
    | true => exact ⟨ρ1, E, S1, q.ext e1 r0, r1, h1⟩
    | false => exact ⟨ρ1, E, S1, q.ext e1 r0, r1, h1⟩
/-- a < b < c -/
def mChain (f g : MO) (ma mb mc : ME) : ME := fun E S => (ma E S).bind fun a S1 => (mb E S1).bind fun b S2 => (f a b S2).bind fun v S3 => match v with
  | .bl true => (mc E S3).bind fun c S4 => g b c S4
  | .bl false => .ok (.bl false) S3
  | _ => .no
end
end FX

set_option Elab.async false
set_option linter.all false
set_option maxRecDepth 100000
set_option maxHeartbeats 2000000
set_option autoImplicit false
/-! FX4: chains, arguments, displays, subscripts, calls. -/
namespace FX
open PySem PySem.Spec PyProof.Rows L2
section
variable {X : Cx} {C : Wd} {W : WX}
theorem chain_mono {f g : MO} {r r' : R2} {ma mb mc : ME} (hf : OpF C f r) (hg : OpF C g r') {σ : L2.St} {H : Hp} {Q : VK} (h : tI C (mChain f g ma mb mc) W σ H Q) : tChain r r' (tI C ma W) (tI C mb W) (tI C mc W) σ H Q := by
  obtain ⟨ρ, E, S, q, r0, h⟩ := h
  refine ⟨ρ, E, S, q, r0, PR.mono (PR.bind (rel := RV C) h) (fun x H1 ⟨ρ1, a, S1, e1, r1, x1, h1⟩ => ?_) fun _ _ _ z => z⟩
  refine ⟨ρ1, E, S1, q.ext e1 r0, r1, PR.mono (PR.bind (rel := RV C) h1) (fun y H2 ⟨ρ2, b, S2, e2, r2, y2, h2⟩ => ?_) fun _ _ _ z => z⟩
  refine hf ρ2 S2 H2 a b x y _ _ r2 (x1.ext e2 r1) y2 (PR.mono (PR.bind (rel := RV C) h2) (fun z H3 ⟨ρ3, v, S3, e3, r3, z3, h3⟩ => ?_) fun _ _ _ z => z)
  split at h3
  · refine ⟨true, rv_bl.mp z3, ?_⟩
    rw [if_pos rfl]
    refine ⟨ρ3, E, S3, ((q.ext e1 r0).ext e2 r1).ext e3 r2, r3, PR.mono (PR.bind (rel := RV C) h3) (fun w H4 ⟨ρ4, c, S4, e4, r4, w4, h4⟩ => ?_) fun _ _ _ z => z⟩
    exact hg ρ4 S4 H4 b c y w _ _ r4 ((y2.ext e3 r2).ext e4 r3) w4 h4
  · refine ⟨false, rv_bl.mp z3, ?_⟩
    rw [if_neg Bool.false_ne_true]
    exact PR.now (v := IV.bl _) h3 r3 (rv_bl.mpr rfl)
  · exact h3.elim

/-! ### argument lists, displays -/
def mNil : MA := fun _ S => .ok [] S
def mCons (m : ME) (ms : MA) : MA := fun E S => (m E S).bind fun v S1 => (ms E S1).bind fun vs S2 => .ok (v :: vs) S2
theorem qa_nil : PA X [] (tA C mNil W) := pa_mono pa_nil fun σ H Q ⟨ρ, E, S, q, r, h⟩ => PR.now (rel := RVs C) h r (rvs_nil.mpr rfl)
theorem qa_cons {e : Expr} {es : List Expr} {m : ME} {ms : MA} (ha : PE X e (tI C m W)) (hr : PA X es (tA C ms W)) (hs : starEach (e :: es) X.env = (false, eval e X.env) :: starEach es X.env := by rfl) : PA X (e :: es) (tA C (mCons m ms) W) :=
  pa_mono (pa_cons ha hr hs) fun σ H Q h => by
    obtain ⟨ρ, E, S, q, r0, h⟩ := h
    refine ⟨ρ, E, S, q, r0, PR.mono (PR.bind (rel := RV C) h) (fun x H1 ⟨ρ1, a, S1, e1, r1, x1, h1⟩ => ?_) fun _ _ _ z => z⟩
    refine ⟨ρ1, E, S1, q.ext e1 r0, r1, PR.mono (PR.bind (rel := RVs C) h1) (fun ys H2 ⟨ρ2, b, S2, e2, r2, y2, h2⟩ => ?_) fun _ _ _ z => z⟩
    exact PR.now (rel := RVs C) h2 r2 (rvs_cons.mpr ⟨x, ys, rfl, x1.ext e2 r1, y2⟩)
def mTup (ms : MA) : ME := fun E S => (ms E S).bind fun vs S1 => bif fullLen vs.length then .ok (.tup vs) S1 else .no
def mLst (ms : MA) : ME := fun E S => (ms E S).bind fun vs S1 => bif fullLen vs.length then .ok (.ref S1.top) (S1.new (.lst vs)) else .no
theorem qe_tup {es : List Expr} {ms : MA} {k} {pos : Pos} (h : PA X es (tA C ms W)) : PE X (.Tuple es k pos) (tI C (mTup ms) W) :=
  pe_mono (pe_tup h) fun σ H Q h => by
    obtain ⟨ρ, E, S, q, r0, h⟩ := h
    refine ⟨ρ, E, S, q, r0, PR.mono (PR.bind (rel := RVs C) h) (fun x H1 ⟨ρ1, a, S1, e1, r1, x1, h1⟩ => ?_) fun _ _ _ z => z⟩
    cases z : fullLen a.length with
    | false => rw [z] at h1; exact h1.elim
    | true =>
      rw [z] at h1
      refine ⟨by rw [x1.length]; exact fullLen_ok z, fun p hp => ?_⟩
      obtain ⟨g1, g2, g3⟩ := new_tup r1 hp x1
      exact h1 _ _ _ g1 g2 g3
theorem qe_lst {es : List Expr} {ms : MA} {pos : Pos} (h : PA X es (tA C ms W)) : PE X (.List es pos) (tI C (mLst ms) W) :=
  pe_mono (pe_lst h) fun σ H Q h => by
    obtain ⟨ρ, E, S, q, r0, h⟩ := h
    refine ⟨ρ, E, S, q, r0, PR.mono (PR.bind (rel := RVs C) h) (fun x H1 ⟨ρ1, a, S1, e1, r1, x1, h1⟩ => ?_) fun _ _ _ z => z⟩
    cases z : fullLen a.length with
    | false => rw [z] at h1; exact h1.elim
    | true =>
      rw [z] at h1
      refine ⟨by rw [x1.length]; exact fullLen_ok z, fun p hp => ?_⟩
      obtain ⟨g1, g2, g3⟩ := new_lst r1 hp x1
      exact h1 _ _ _ g1 g2 g3

/-! ### subscripts -/
def fIx : MO := fun a b S => match b with
  | .int i => (match a with
    | .str z => (bif fullLen z.length then (match atI z.cps.toList i with
      | some c => .ok (.str ⟨#[c]⟩) S
      | none => .no) else .no)
    | a => match itemsOf S a with
      | some xs => (match atI xs i with
        | some v => .ok v S
        | none => .no)
      | none => .no)
  | _ => .no
theorem RVs.atI {ρ : Map} {H : Hp} {xs : List IV} {vs : List V} {i : Int} {x : IV} (h : RVs C ρ H xs vs) (e : L2.atI xs i = some x) : ∃ v, L2.atI vs i = some v ∧ RV C ρ H x v := by
  unfold L2.atI at e ⊢
  rw [h.length]
  cases z : ixN xs.length i with
  | none => rw [z] at e; cases e
  | some j =>
    rw [z] at e
    exact h.get e
theorem fIx_ok : OpF C fIx (rIx C.K) := by
  intro ρ S H a b x y Q W r ha hb h
  unfold fIx at h
  split at h
  · have e2 := rv_int.mp hb
    split at h
    · rename_i z
      cases f : fullLen z.length with
      | false => rw [f] at h; exact h.elim
      | true =>
        rw [f] at h
        dsimp only [cond_true] at h
        split at h
        · rename_i c hc
          exact .inr (.inr ⟨z, _, c, rv_str.mp ha, e2, fullLen_ok f, hc, PR.now (v := IV.str _) h r (rv_str.mpr rfl)⟩)
        · exact h.elim
    · split at h
      · rename_i xs hx
        obtain ⟨p, vs, e1, t, q⟩ := itemsOf_ok r hx ha
        split at h
        · rename_i v hv
          obtain ⟨u, h1, h2⟩ := RVs.atI q hv
          rcases t with t | t
          · exact .inl ⟨p, vs, _, u, e1, e2, t, h1, h.now r h2⟩
          · exact .inr (.inl ⟨p, vs, _, u, e1, e2, t, h1, h.now r h2⟩)
        · exact h.elim
      · exact h.elim
  · exact h.elim
theorem qe_ix {a b : Expr} {ma mb : ME} {pos : Pos} (hK : X.K = C.K) (ha : PE X a (tI C ma W)) (hb : PE X b (tI C mb W)) (hs : PlainIx b) : PE X (.Subscript a b pos) (tI C (mB fIx ma mb) W) :=
  pe_mono (pe_ix ix_seq ha hb hs) fun _ _ _ h => by rw [hK]; exact two_mono fIx_ok h
/-- slices -/
abbrev MP := Env' → Sto → R (Option Int)
def relP (_ : Map) (_ : Hp) (b c : Option Int) : Prop := c = b
def tP (C : Wd) (m : MP) (W : WX) : TO := fun σ H Q => ∃ ρ E S, RE C ρ H E σ ∧ Rel C ρ S H ∧ PR C relP (m E S) ρ S H Q (fun c d H' => W c d σ H')
def mNoP : MP := fun _ S => .ok none S
def mP (m : ME) : MP := fun E S => (m E S).bind fun v S1 => match v with
  | .int i => .ok (some i) S1
  | _ => .no
theorem po_mono {e : Option Expr} {t t' : TO} (h : PO X e t) (m : ∀ σ H Q, t' σ H Q → t σ H Q) : PO X e t' := by
  cases h with
  | mk run => exact ⟨fun pins s σ H Q I q => run pins s σ H Q I (m _ _ _ q)⟩
theorem qp_none : PO X none (tP C mNoP W) := po_mono po_none fun σ H Q ⟨ρ, E, S, q, r, h⟩ => PR.now (rel := relP) h r rfl
theorem qp_some {e : Expr} {m : ME} (h : PE X e (tI C m W)) : PO X (some e) (tP C (mP m) W) := po_mono (po_some h) fun σ H Q h => by
  obtain ⟨ρ, E, S, q, r0, h⟩ := h
  refine ⟨ρ, E, S, q, r0, PR.mono (PR.bind (rel := RV C) h) (fun x H1 ⟨ρ1, a, S1, e1, r1, x1, h1⟩ => ?_) fun _ _ _ z => z⟩
  split at h1
  · exact ⟨_, rv_int.mp x1, PR.now (rel := relP) h1 r1 rfl⟩
  · exact h1.elim
def cutI (xs : List IV) (lo hi : Option Int) : List IV := (xs.drop (HT.sIx xs.length 0 lo)).take (HT.sIx xs.length xs.length hi - HT.sIx xs.length 0 lo)
theorem RVs.cut {ρ : Map} {H : Hp} {xs : List IV} {vs : List V} (h : RVs C ρ H xs vs) (lo hi : Option Int) : RVs C ρ H (cutI xs lo hi) (cutV vs lo hi) := by
  unfold cutI cutV
  rw [h.length]
  exact (h.drop _).take _
def fSl : IV → Option Int → Option Int → Sto → R IV := fun a lo hi S => match a with
  | .str z => bif fullLen z.length then .ok (.str (cutS z lo hi)) S else .no
  | .tup xs => .ok (.tup (cutI xs lo hi)) S
  | .ref n => (match S.get n with
    | some (.lst xs) => .ok (.ref S.top) (S.new (.lst (cutI xs lo hi)))
    | none => .no)
  | _ => .no
def mSl (m : ME) (l u : MP) : ME := fun E S => (m E S).bind fun a S1 => (l E S1).bind fun lo S2 => (u E S2).bind fun hi S3 => fSl a lo hi S3
theorem fSl_ok {a : IV} {lo hi : Option Int} {ρ3 : Map} {S3 : Sto} {H3 : Hp} {x : V} {Q : VK} {W : XK} (r3 : Rel C ρ3 S3 H3) (x3 : RV C ρ3 H3 a x) (h3 : PR C (RV C) (fSl a lo hi S3) ρ3 S3 H3 Q W) :
    rSlL C.K x lo hi H3 Q ∨ rSlA C.K x lo hi H3 Q ∨ rSlS x lo hi H3 Q := by
  unfold fSl at h3
  split at h3
  · rename_i z
    cases f : fullLen z.length with
    | false => rw [f] at h3; exact h3.elim
    | true =>
      rw [f] at h3
      exact .inr (.inr ⟨z, rv_str.mp x3, fullLen_ok f, PR.now (v := IV.str _) h3 r3 (rv_str.mpr rfl)⟩)
  · rename_i xs
    obtain ⟨p, vs, e, t, v⟩ := rv_tup.mp x3
    have v2 := v.cut lo hi
    refine .inr (.inl ⟨p, vs, e, t, fun hz => ?_, fun hz w hw => ?_⟩)
    · refine PR.now (v := IV.tup _) h3 r3 (rv_tup.mpr ⟨p, vs, rfl, t, ?_⟩)
      have ev : cutV vs lo hi = vs := by
        unfold cutV
        rw [hz.1, hz.2, List.drop_zero, Nat.sub_zero, List.take_length]
      rw [ev] at v2
      exact v2
    · obtain ⟨g1, g2, g3⟩ := new_tup r3 hw v2
      exact h3 _ _ _ g1 g2 g3
  · rename_i n
    split at h3
    · rename_i xs g
      obtain ⟨p, vs, _, e, hp, v⟩ := cell_at r3 x3 g
      refine .inl ⟨p, vs, e, SqL.of hp, fun w hw => ?_⟩
      obtain ⟨g1, g2, g3⟩ := new_lst r3 hw (v.cut lo hi)
      exact h3 _ _ _ g1 g2 g3
    · exact h3.elim
  · exact h3.elim

theorem qe_slice {e : Expr} {lo hi : Option Expr} {m : ME} {l u : MP} {p2 pos : Pos} (hK : X.K = C.K) (he : PE X e (tI C m W)) (hl : PO X lo (tP C l W)) (hu : PO X hi (tP C u W)) : PE X (.Subscript e (.Slice lo hi none p2) pos) (tI C (mSl m l u) W) :=
  pe_mono (pe_slice (sl_list.or (sl_tupA.or sl_str)) he hl hu) fun σ H Q h => by
    obtain ⟨ρ, E, S, q, r0, h⟩ := h
    refine ⟨ρ, E, S, q, r0, PR.mono (PR.bind (rel := RV C) h) (fun x H1 ⟨ρ1, a, S1, e1, r1, x1, h1⟩ => ?_) fun _ _ _ z => z⟩
    refine ⟨ρ1, E, S1, q.ext e1 r0, r1, PR.mono (PR.bind (rel := relP) h1) (fun lo H2 ⟨ρ2, b, S2, e2, r2, y2, h2⟩ => ?_) fun _ _ _ z => z⟩
    cases y2
    refine ⟨ρ2, E, S2, (q.ext e1 r0).ext e2 r1, r2, PR.mono (PR.bind (rel := relP) h2) (fun hi H3 ⟨ρ3, c, S3, e3, r3, y3, h3⟩ => ?_) fun _ _ _ z => z⟩
    cases y3
    have x3 := (x1.ext e2 r1).ext e3 r2
    rw [hK]
    exact fSl_ok r3 x3 h3

/-! ### calls -/
/-- a call's promise -/
def spI (C : Wd) (n : Nat) (m : MF) : Sp := fun vs H Q E => vs.length = n ∧ ∃ ρ S as, Rel C ρ S H ∧ RVs C ρ H as vs ∧ PR C (RV C) (m as S) ρ S H Q E
/-- of a built-in -/
def CallF (C : Wd) (f : MF) (r : List V → Hp → VK → Prop) : Prop := ∀ ρ S H as xs Q W, Rel C ρ S H → RVs C ρ H as xs → PR C (RV C) (f as S) ρ S H Q W → r xs H Q
def mCall (f : MF) (ms : MA) : ME := fun E S => (ms E S).bind f
theorem callF_mono {f : MF} {r : List V → Hp → VK → Prop} {ms : MA} (hf : CallF C f r) {σ : L2.St} {H : Hp} {Q : VK} (h : tI C (mCall f ms) W σ H Q) : tCB r (tA C ms W) σ H Q := by
  obtain ⟨ρ, E, S, q, r0, h⟩ := h
  refine ⟨ρ, E, S, q, r0, PR.mono (PR.bind (rel := RVs C) h) (fun x H1 ⟨ρ1, a, S1, e1, r1, x1, h1⟩ => ?_) fun _ _ _ z => z⟩
  exact hf ρ1 S1 H1 a x Q _ r1 x1 h1
theorem qe_callB {x : Str} {id : String} {r : List V → Hp → VK → Prop} {f : MF} {e : Expr} {es : List Expr} {ms : MA} {p pos : Pos} (hc : CallR X (.builtin id) r) (hf : CallF C f r) (hg : Gl X x) (hm : X.mg x = none) (hv : bootBuiltins x = some (.builtin id)) (ha : PA X (e :: es) (tA C ms W)) (hn : x ≠ "__name__" := by decide) (hdb : (x == ("__debug__" : Str)) = false := by decide)
    (he : starEach (e :: es) X.env = (false, eval e X.env) :: starEach es X.env := by rfl) (hpl : (backTo pos (starEach es X.env)).any (·.1) = false := by rfl) : PE X (.Call (.Name x p) (e :: es) [] pos) (tI C (mCall f ms) W) :=
  pe_mono (pe_callB hc hg hm hv ha hn hdb he hpl) fun _ _ _ h => callF_mono hf h
theorem qe_callTy {x : Str} {T : String} {r : List V → Hp → VK → Prop} {f : MF} {e : Expr} {es : List Expr} {ms : MA} {p pos : Pos} (hc : CallR X (.type T) r) (hf : CallF C f r) (hg : Gl X x) (hm : X.mg x = none) (hv : bootBuiltins x = some (.type T)) (ha : PA X (e :: es) (tA C ms W)) (hn : x ≠ "__name__" := by decide) (hdb : (x == ("__debug__" : Str)) = false := by decide)
    (he : starEach (e :: es) X.env = (false, eval e X.env) :: starEach es X.env := by rfl) (hpl : (backTo pos (starEach es X.env)).any (·.1) = false := by rfl) : PE X (.Call (.Name x p) (e :: es) [] pos) (tI C (mCall f ms) W) :=
  pe_mono (pe_callTy hc hg hm hv ha hn hdb he hpl) fun _ _ _ h => callF_mono hf h
/-! of a def of the text; where its arguments hold no cell, it runs in a store of its own -/
mutual
def flatR : IV → Bool
  | .ref _ => false
  | .tup xs => flatRs xs
  | .frz xs => flatRs xs
  | _ => true
def flatRs : List IV → Bool
  | [] => true
  | x :: xs => flatR x && flatRs xs
end
mutual
def shift (d : Nat) : IV → IV
  | .ref n => .ref (d + n)
  | .tup xs => .tup (shifts d xs)
  | .frz xs => .frz (shifts d xs)
  | .non => .non
  | .bl b => .bl b
  | .int i => .int i
  | .str x => .str x
  | .glo n => .glo n
  | .ty t => .ty t
def shifts (d : Nat) : List IV → List IV
  | [] => []
  | x :: xs => shift d x :: shifts d xs
end
def shiftO (d : Nat) : IO → IO
  | .lst xs => .lst (shifts d xs)
def own (f : MF) : MF := fun as S => bif flatRs as then (match f as ⟨0, []⟩ with
  | .ok v S' => bif flatR v then .ok v S else .ok (shift S.top v) ⟨S.top + S'.top, S'.cells.map (shiftO S.top) ++ S.cells⟩
  | .ex e S' => (match e.arg with
    | none => .ex e S
    | some v => bif flatR v then .ex e S else .no)
  | .no => .no) else f as S
mutual
theorem shift_rv {ρ ρ' : Map} {H : Hp} {d : Nat} (key : ∀ n a, ρ n = some a → ρ' (d + n) = some a) : ∀ {x : IV} {v : V}, RV C ρ H x v → RV C ρ' H (shift d x) v
  | .non, _, h => by unfold shift; exact rv_non.mpr (rv_non.mp h)
  | .bl _, _, h => by unfold shift; exact rv_bl.mpr (rv_bl.mp h)
  | .int _, _, h => by unfold shift; exact rv_int.mpr (rv_int.mp h)
  | .str _, _, h => by unfold shift; exact rv_str.mpr (rv_str.mp h)
  | .glo _, _, h => by unfold shift; exact rv_glo.mpr (rv_glo.mp h)
  | .ty _, _, h => by unfold shift; exact rv_ty.mpr (rv_ty.mp h)
  | .ref n, _, h => by
    unfold shift
    obtain ⟨a, h1, h2⟩ := rv_ref.mp h
    exact rv_ref.mpr ⟨a, key n a h1, h2⟩
  | .tup xs, _, h => by
    unfold shift
    obtain ⟨a, vs, e, t, q⟩ := rv_tup.mp h
    exact rv_tup.mpr ⟨a, vs, e, t, shifts_rv key q⟩
  | .frz xs, _, h => by
    unfold shift
    obtain ⟨a, vs, e, t, q⟩ := rv_frz.mp h
    exact rv_frz.mpr ⟨a, vs, e, t, shifts_rv key q⟩
theorem shifts_rv {ρ ρ' : Map} {H : Hp} {d : Nat} (key : ∀ n a, ρ n = some a → ρ' (d + n) = some a) : ∀ {xs : List IV} {vs : List V}, RVs C ρ H xs vs → RVs C ρ' H (shifts d xs) vs
  | [], _, h => by unfold shifts; exact rvs_nil.mpr (rvs_nil.mp h)
  | x :: xs, _, h => by
    unfold shifts
    obtain ⟨v, q, e, h1, h2⟩ := rvs_cons.mp h
    exact rvs_cons.mpr ⟨v, q, e, shift_rv key h1, shifts_rv key h2⟩
end
mutual
theorem RV.map {ρ ρ' : Map} {H : Hp} (key : ∀ i a, ρ i = some a → ρ' i = some a) : ∀ {x : IV} {v : V}, RV C ρ H x v → RV C ρ' H x v
  | .non, _, h => rv_non.mpr (rv_non.mp h)
  | .bl _, _, h => rv_bl.mpr (rv_bl.mp h)
  | .int _, _, h => rv_int.mpr (rv_int.mp h)
  | .str _, _, h => rv_str.mpr (rv_str.mp h)
  | .glo _, _, h => rv_glo.mpr (rv_glo.mp h)
  | .ty _, _, h => rv_ty.mpr (rv_ty.mp h)
  | .ref n, _, h => by
    obtain ⟨a, h1, h2⟩ := rv_ref.mp h
    exact rv_ref.mpr ⟨a, key n a h1, h2⟩
  | .tup xs, _, h => by
    obtain ⟨a, vs, e, t, q⟩ := rv_tup.mp h
    exact rv_tup.mpr ⟨a, vs, e, t, RVs.map key q⟩
  | .frz xs, _, h => by
    obtain ⟨a, vs, e, t, q⟩ := rv_frz.mp h
    exact rv_frz.mpr ⟨a, vs, e, t, RVs.map key q⟩
theorem RVs.map {ρ ρ' : Map} {H : Hp} (key : ∀ i a, ρ i = some a → ρ' i = some a) : ∀ {xs : List IV} {vs : List V}, RVs C ρ H xs vs → RVs C ρ' H xs vs
  | [], _, h => rvs_nil.mpr (rvs_nil.mp h)
  | x :: xs, _, h => by
    obtain ⟨v, q, e, h1, h2⟩ := rvs_cons.mp h
    exact rvs_cons.mpr ⟨v, q, e, RV.map key h1, RVs.map key h2⟩
end
mutual
theorem flatR_rv {ρ ρ' : Map} {H : Hp} : ∀ {x : IV} {v : V}, flatR x = true → RV C ρ H x v → RV C ρ' H x v
  | .non, _, _, h => rv_non.mpr (rv_non.mp h)
  | .bl _, _, _, h => rv_bl.mpr (rv_bl.mp h)
  | .int _, _, _, h => rv_int.mpr (rv_int.mp h)
  | .str _, _, _, h => rv_str.mpr (rv_str.mp h)
  | .glo _, _, _, h => rv_glo.mpr (rv_glo.mp h)
  | .ty _, _, _, h => rv_ty.mpr (rv_ty.mp h)
  | .ref _, _, f, _ => by unfold flatR at f; cases f
  | .tup xs, _, f, h => by
    unfold flatR at f
    obtain ⟨a, vs, e, t, q⟩ := rv_tup.mp h
    exact rv_tup.mpr ⟨a, vs, e, t, flatRs_rv f q⟩
  | .frz xs, _, f, h => by
    unfold flatR at f
    obtain ⟨a, vs, e, t, q⟩ := rv_frz.mp h
    exact rv_frz.mpr ⟨a, vs, e, t, flatRs_rv f q⟩
theorem flatRs_rv {ρ ρ' : Map} {H : Hp} : ∀ {xs : List IV} {vs : List V}, flatRs xs = true → RVs C ρ H xs vs → RVs C ρ' H xs vs
  | [], _, _, h => rvs_nil.mpr (rvs_nil.mp h)
  | x :: xs, _, f, h => by
    unfold flatRs at f
    rw [Bool.and_eq_true] at f
    obtain ⟨v, q, e, h1, h2⟩ := rvs_cons.mp h
    exact rvs_cons.mpr ⟨v, q, e, flatR_rv f.1 h1, flatRs_rv f.2 h2⟩
end
theorem get_empty (n i : Nat) : (Sto.mk n []).get i = none := by
  unfold Sto.get
  split <;> simp
/-- the cells of S, below those of S' -/
theorem get_both {S S' : Sto} (h : S'.cells.length = S'.top) (i : Nat) : (Sto.mk (S.top + S'.top) (S'.cells.map (shiftO S.top) ++ S.cells)).get i = if S.top ≤ i then (S'.get (i - S.top)).map (shiftO S.top) else S.get i := by
  unfold Sto.get
  dsimp only
  by_cases hl : S.top ≤ i
  · rw [if_pos hl]
    by_cases hi : i < S.top + S'.top
    · have h2 : i - S.top < S'.top := by omega
      rw [if_pos hi, if_pos h2, List.getElem?_append_left (by rw [List.length_map]; omega), List.getElem?_map]
      congr 2
      omega
    · have h2 : ¬ i - S.top < S'.top := by omega
      rw [if_neg hi, if_neg h2]
      rfl
  · rw [if_neg hl]
    have hi : i < S.top + S'.top := by omega
    have hi2 : i < S.top := by omega
    rw [if_pos hi, if_pos hi2, List.getElem?_append_right (by rw [List.length_map]; omega), List.length_map]
    congr 1
    omega
theorem own_ok {f : MF} {as : List IV} {vs : List V} {ρ : Map} {S : Sto} {H : Hp} {Q : VK} {E : XK} (r : Rel C ρ S H) (h : RVs C ρ H as vs) (q : PR C (RV C) (own f as S) ρ S H Q E) :
    ∃ ρ S as, Rel C ρ S H ∧ RVs C ρ H as vs ∧ PR C (RV C) (f as S) ρ S H Q E := by
  unfold own at q
  cases z : flatRs as with
  | false =>
    rw [z] at q
    exact ⟨ρ, S, as, r, h, q⟩
  | true =>
    rw [z, cond_true] at q
    have r0 : Rel C (fun _ => none) ⟨0, []⟩ H := ⟨fun i o g => (by rw [get_empty] at g; cases g), fun i j a h _ => (by cases h), fun i a h => (by cases h)⟩
    refine ⟨fun _ => none, ⟨0, []⟩, as, r0, flatRs_rv z h, ?_⟩
    -- nothing that was there has changed
    have same : ∀ {ρ' S' H'}, Ext (fun _ => none) ⟨0, []⟩ H ρ' S' H' → ∀ b o, H b = some o → H' b = some o := fun e b o hb => e.frame b o hb fun i hi => absurd (get_empty 0 i) hi
    have ext0 : ∀ {ρ' S' H'}, Ext (fun _ => none) ⟨0, []⟩ H ρ' S' H' → Ext ρ S H ρ S H' := fun {ρ' S' H'} e =>
      ⟨fun _ _ h => h, fun _ _ h _ => h, fun i a h hl => absurd (r.live i a h).1 (Nat.not_lt.mpr hl), ⟨0, rfl, rfl⟩, fun b o hb _ => same e b o hb, e.there, fun _ _ h => h⟩
    have rel0 : ∀ {ρ' S' H'}, Ext (fun _ => none) ⟨0, []⟩ H ρ' S' H' → Rel C ρ S H' := fun {ρ' S' H'} e => by
      refine ⟨fun i o g => ?_, r.inj, fun i a ha => ?_⟩
      · obtain ⟨a, ho, e1, e2, e3⟩ := r.obj i o g
        refine ⟨a, ho, e1, same e a ho e2, ?_⟩
        cases o with
        | lst ys =>
          obtain ⟨us, rfl, e4⟩ := e3
          exact ⟨us, rfl, RVs.ext (ext0 e) r _ _ e4⟩
      · obtain ⟨h1, ho, h2, h3⟩ := r.live i a ha
        exact ⟨h1, ho, same e a ho h2, h3⟩
    cases e : f as ⟨0, []⟩ with
    | no => rw [e] at q; exact q.elim
    | ex x S' =>
      rw [e] at q
      intro ρ' H' cls d e1 r1 x1
      cases ha : x.arg with
      | none =>
        simp only [ha] at q
        refine q ρ H' cls d (ext0 e1) (rel0 e1) ?_
        unfold RX at x1 ⊢
        rw [ha] at x1 ⊢
        exact x1
      | some v =>
        simp only [ha] at q
        cases zv : flatR v with
        | false => rw [zv] at q; exact q.elim
        | true =>
          rw [zv] at q
          refine q ρ H' cls d (ext0 e1) (rel0 e1) ?_
          unfold RX at x1 ⊢
          rw [ha] at x1 ⊢
          obtain ⟨x2, dd, y, x3, x4, x5⟩ := x1
          exact ⟨x2, dd, y, x3, x4, flatR_rv zv x5⟩
    | ok v S' =>
      rw [e] at q
      intro ρ' H' x e1 r1 x1
      cases zv : flatR v with
      | true =>
        simp only [zv, cond_true] at q
        exact q ρ H' x (ext0 e1) (rel0 e1) (flatR_rv zv x1)
      | false =>
        simp only [zv, cond_false] at q
        obtain ⟨k, g1, g2⟩ := e1.grow
        have g1 : S'.top = k := by simpa using g1
        have g2 : S'.cells.length = k := by simpa using g2
        have g3 : S'.cells.length = S'.top := by rw [g1, g2]
        have gb := fun i => get_both (S := S) (S' := S') g3 i
        let ρ2 : Map := fun i => if i < S.top then ρ i else ρ' (i - S.top)
        have lo : ∀ i, i < S.top → ρ2 i = ρ i := fun i hi => if_pos hi
        have hi_ : ∀ i, S.top ≤ i → ρ2 i = ρ' (i - S.top) := fun i hi => if_neg (Nat.not_lt.mpr hi)
        have keyN : ∀ n a, ρ' n = some a → ρ2 (S.top + n) = some a := fun n a hn => by
          rw [hi_ _ (Nat.le_add_right _ _), Nat.add_sub_cancel_left]
          exact hn
        have keyO : ∀ n a, ρ n = some a → ρ2 n = some a := fun n a hn => by
          rw [lo n (r.live n a hn).1]
          exact hn
        have newN : ∀ i a, ρ' i = some a → H a = none := fun i a hi => e1.fresh i a hi (Nat.zero_le _)
        refine q ρ2 H' x ⟨keyO, fun i a hi hl => by rw [lo i hl] at hi; exact hi, fun i a hi hl => ?_, ⟨S'.top, rfl, by simp [g3, Nat.add_comm]⟩, fun b o hb _ => same e1 b o hb, e1.there, fun i hl hg => ?_⟩ ⟨fun i o g => ?_, fun i j a hi hj => ?_, fun i a hi => ?_⟩ (shift_rv keyN x1)
        · rw [hi_ i hl] at hi
          exact newN _ a hi
        · rw [gb, if_neg (Nat.not_le.mpr hl)] at hg
          exact hg
        · rw [gb] at g
          by_cases hl : S.top ≤ i
          · rw [if_pos hl] at g
            obtain ⟨o', g4, rfl⟩ := Option.map_eq_some_iff.mp g
            obtain ⟨a, ho, f1, f2, f3⟩ := r1.obj _ o' g4
            refine ⟨a, ho, by rw [hi_ i hl]; exact f1, f2, ?_⟩
            cases o' with
            | lst ys =>
              obtain ⟨us, rfl, e4⟩ := f3
              exact ⟨us, rfl, shifts_rv keyN e4⟩
          · rw [if_neg hl] at g
            obtain ⟨a, ho, f1, f2, f3⟩ := (rel0 e1).obj i o g
            refine ⟨a, ho, keyO i a f1, f2, ?_⟩
            cases o with
            | lst ys =>
              obtain ⟨us, rfl, e4⟩ := f3
              exact ⟨us, rfl, RVs.map keyO e4⟩
        · by_cases h1 : i < S.top <;> by_cases h2 : j < S.top
          · rw [lo i h1] at hi
            rw [lo j h2] at hj
            exact r.inj i j a hi hj
          · rw [lo i h1] at hi
            rw [hi_ j (Nat.le_of_not_lt h2)] at hj
            obtain ⟨_, ho, h3, _⟩ := r.live i a hi
            rw [newN _ a hj] at h3
            cases h3
          · rw [lo j h2] at hj
            rw [hi_ i (Nat.le_of_not_lt h1)] at hi
            obtain ⟨_, ho, h3, _⟩ := r.live j a hj
            rw [newN _ a hi] at h3
            cases h3
          · rw [hi_ i (Nat.le_of_not_lt h1)] at hi
            rw [hi_ j (Nat.le_of_not_lt h2)] at hj
            have := r1.inj _ _ a hi hj
            omega
        · by_cases h1 : i < S.top
          · rw [lo i h1] at hi
            obtain ⟨h2, ho, h3, h4⟩ := (rel0 e1).live i a hi
            exact ⟨Nat.lt_of_lt_of_le h2 (Nat.le_add_right _ _), ho, h3, h4⟩
          · rw [hi_ i (Nat.le_of_not_lt h1)] at hi
            obtain ⟨h2, ho, h3, h4⟩ := r1.live _ a hi
            exact ⟨by show i < S.top + S'.top; omega, ho, h3, h4⟩
def mCallO (f : MF) (ms : MA) : ME := fun E S => (ms E S).bind fun as S1 => own f as S1
theorem qe_call {k : Nat} {f : Addr} {fd : FuncData} {ps : List Str} {m : MF} {x : Str} {e : Expr} {es : List Expr} {ms : MA} {p pos : Pos} (tk : Takes X W) (F : FnOk X.prog X.w X.K X.mg X.base (L2.CX X.prog X.w) k f fd ps (spI C ps.length m)) (hr : Room k X.A) (hg : Gl X x) (hm : X.mg x = some (.ref f)) (hk : PySem.W.keepIn X.K (.ref f) = true) (hb : Binds X.K fd ps [])
    (ha : PA X (e :: es) (tA C ms W)) (hl : (e :: es).length = ps.length) (hdb : (x == ("__debug__" : Str)) = false := by decide) (he : starEach (e :: es) X.env = (false, eval e X.env) :: starEach es X.env := by rfl) (hpl : (backTo pos (starEach es X.env)).any (·.1) = false := by rfl)
    (hn : ∀ E S as S', ms E S = .ok as S' → as.length = (e :: es).length) : PE X (.Call (.Name x p) (e :: es) [] pos) (tI C (mCallO m ms) W) :=
  pe_mono (pe_callS F hr hg hm hk hb (fun σ => passAt tk σ) ha hdb he hpl) fun σ H Q h => by
    obtain ⟨ρ, E, S, q, r0, h⟩ := h
    have hn' := hn E S
    revert hn'
    cases e0 : ms E S with
    | no => intro _; rw [mCallO, e0] at h; exact h.elim
    | ex x S' =>
      intro _
      refine ⟨ρ, E, S, q, r0, ?_⟩
      rw [e0]
      rw [mCallO, e0] at h
      exact h
    | ok as S' =>
      intro hn'
      refine ⟨ρ, E, S, q, r0, ?_⟩
      rw [e0]
      rw [mCallO, e0] at h
      intro ρ1 H1 x1 e1 r1 y1
      have hlen := hn' as S' rfl
      have h1 : PR C (RV C) (own m as S') ρ S H Q (fun c d H' => W c d σ H') := h
      exact ⟨by rw [y1.length, hlen, hl], own_ok r1 y1 (h1.ext e1)⟩
end
end FX

set_option Elab.async false
set_option linter.all false
set_option maxRecDepth 100000
set_option maxHeartbeats 2000000
set_option autoImplicit false
/-! FX5: built-in functions. -/
namespace FX
open PySem PySem.Spec PyProof.Rows L2
section
variable {X : Cx} {C : Wd} {W : WX}
theorem rvs_one {ρ : Map} {H : Hp} {a : IV} {xs : List V} (h : RVs C ρ H [a] xs) : ∃ x, xs = [x] ∧ RV C ρ H a x := by
  obtain ⟨v, r, rfl, h1, h2⟩ := rvs_cons.mp h
  rw [rvs_nil.mp h2]
  exact ⟨v, rfl, h1⟩
theorem rvs_two {ρ : Map} {H : Hp} {a b : IV} {xs : List V} (h : RVs C ρ H [a, b] xs) : ∃ x y, xs = [x, y] ∧ RV C ρ H a x ∧ RV C ρ H b y := by
  obtain ⟨v, r, rfl, h1, h2⟩ := rvs_cons.mp h
  obtain ⟨y, rfl, h3⟩ := rvs_one h2
  exact ⟨v, y, rfl, h1, h3⟩
/-! ### len, abs, int -/
def bLen : MF := fun as S => match as with
  | [.str z] => bif fullLen z.length then .ok (.int z.length) S else .no
  | [a] => (match itemsOf S a with
    | some xs => .ok (.int xs.length) S
    | none => .no)
  | _ => .no
def rLenA (K : PySem.W.Frag) : List V → Hp → VK → Prop := fun xs H Q => ∃ x n, xs = [x] ∧ LenV K x H n ∧ Q (.int n) H
theorem bLen_ok : CallF C bLen (rLenA C.K) := by
  intro ρ S H as xs Q W r h q
  unfold bLen at q
  split at q
  · rename_i z
    obtain ⟨x, rfl, h1⟩ := rvs_one h
    cases f : fullLen z.length with
    | false => rw [f] at q; exact q.elim
    | true =>
      rw [f] at q
      have e := rv_str.mp h1
      subst e
      exact ⟨_, _, rfl, ⟨fullLen_ok f, rfl⟩, PR.now (v := IV.int _) q r (rv_int.mpr rfl)⟩
  · obtain ⟨x, rfl, h1⟩ := rvs_one h
    split at q
    · rename_i ys hy
      obtain ⟨p, vs, rfl, t, e⟩ := itemsOf_ok r hy h1
      refine ⟨_, ys.length, rfl, ?_, PR.now (v := IV.int _) q r (rv_int.mpr rfl)⟩
      rcases t with t | t
      · exact .inl ⟨vs, t, e.length.symm⟩
      · exact .inr ⟨vs, t, e.length.symm⟩
    · exact q.elim
  · exact q.elim
def bAbs : MF := fun as S => match as with
  | [.int i] => .ok (.int (if i < 0 then -i else i)) S
  | _ => .no
theorem bAbs_ok : CallF C bAbs (fun xs H Q => ∃ i, xs = [.int i] ∧ Q (.int (if i < 0 then -i else i)) H) := by
  intro ρ S H as xs Q W r h q
  unfold bAbs at q
  split at q
  · obtain ⟨x, rfl, h1⟩ := rvs_one h
    have e := rv_int.mp h1
    subst e
    exact ⟨_, rfl, PR.now (v := IV.int _) q r (rv_int.mpr rfl)⟩
  · exact q.elim
def bInt : MF := fun as S => match as with
  | [.int i] => .ok (.int i) S
  | [.bl b] => .ok (.int (if b then 1 else 0)) S
  | _ => .no
theorem bInt_ok : CallF C bInt (fun xs H Q => (∃ i, xs = [.int i] ∧ Q (.int i) H) ∨ ∃ k, xs = [.bl k] ∧ Q (.int (if k then 1 else 0)) H) := by
  intro ρ S H as xs Q W r h q
  unfold bInt at q
  split at q
  · obtain ⟨x, rfl, h1⟩ := rvs_one h
    have e := rv_int.mp h1
    subst e
    exact .inl ⟨_, rfl, PR.now (v := IV.int _) q r (rv_int.mpr rfl)⟩
  · obtain ⟨x, rfl, h1⟩ := rvs_one h
    have e := rv_bl.mp h1
    subst e
    exact .inr ⟨_, rfl, PR.now (v := IV.int _) q r (rv_int.mpr rfl)⟩
  · exact q.elim
/-! ### lists of numbers, of truth values -/
def intsOf : List IV → Option (List Int)
  | [] => some []
  | .int i :: r => (intsOf r).map (i :: ·)
  | _ => none
theorem intsOf_ok {ρ : Map} {H : Hp} : ∀ {xs : List IV} {ns : List Int} {vs : List V}, intsOf xs = some ns → RVs C ρ H xs vs → vs = ns.map V.int
  | [], ns, vs, e, h => by
    unfold intsOf at e; cases e
    exact rvs_nil.mp h
  | .int i :: r, ns, vs, e, h => by
    unfold intsOf at e
    obtain ⟨ms, e1, rfl⟩ := Option.map_eq_some_iff.mp e
    obtain ⟨v, q, rfl, h1, h2⟩ := rvs_cons.mp h
    rw [rv_int.mp h1, intsOf_ok e1 h2]
    rfl
  | .non :: _, _, _, e, _ => by unfold intsOf at e; cases e
  | .bl _ :: _, _, _, e, _ => by unfold intsOf at e; cases e
  | .str _ :: _, _, _, e, _ => by unfold intsOf at e; cases e
  | .tup _ :: _, _, _, e, _ => by unfold intsOf at e; cases e
  | .frz _ :: _, _, _, e, _ => by unfold intsOf at e; cases e
  | .ref _ :: _, _, _, e, _ => by unfold intsOf at e; cases e
  | .glo _ :: _, _, _, e, _ => by unfold intsOf at e; cases e
  | .ty _ :: _, _, _, e, _ => by unfold intsOf at e; cases e
def blsOf : List IV → Option (List Bool)
  | [] => some []
  | .bl i :: r => (blsOf r).map (i :: ·)
  | _ => none
theorem blsOf_ok {ρ : Map} {H : Hp} : ∀ {xs : List IV} {ns : List Bool} {vs : List V}, blsOf xs = some ns → RVs C ρ H xs vs → vs = ns.map V.bl
  | [], ns, vs, e, h => by
    unfold blsOf at e; cases e
    exact rvs_nil.mp h
  | .bl i :: r, ns, vs, e, h => by
    unfold blsOf at e
    obtain ⟨ms, e1, rfl⟩ := Option.map_eq_some_iff.mp e
    obtain ⟨v, q, rfl, h1, h2⟩ := rvs_cons.mp h
    rw [rv_bl.mp h1, blsOf_ok e1 h2]
    rfl
  | .non :: _, _, _, e, _ => by unfold blsOf at e; cases e
  | .int _ :: _, _, _, e, _ => by unfold blsOf at e; cases e
  | .str _ :: _, _, _, e, _ => by unfold blsOf at e; cases e
  | .tup _ :: _, _, _, e, _ => by unfold blsOf at e; cases e
  | .frz _ :: _, _, _, e, _ => by unfold blsOf at e; cases e
  | .ref _ :: _, _, _, e, _ => by unfold blsOf at e; cases e
  | .glo _ :: _, _, _, e, _ => by unfold blsOf at e; cases e
  | .ty _ :: _, _, _, e, _ => by unfold blsOf at e; cases e
def cellInts (S : Sto) : IV → Option (List Int)
  | .ref n => (match S.get n with
    | some (.lst xs) => intsOf xs
    | none => none)
  | _ => none
theorem cellInts_ok {ρ : Map} {S : Sto} {H : Hp} {x : IV} {v : V} {ns : List Int} (r : Rel C ρ S H) (e : cellInts S x = some ns) (h : RV C ρ H x v) : ∃ a, v = .ref a ∧ SqL C.K H a (ns.map V.int) := by
  unfold cellInts at e
  split at e
  · split at e
    · rename_i xs g
      obtain ⟨a, vs, _, e1, e2, e3⟩ := cell_at r h g
      rw [intsOf_ok e e3] at e2
      exact ⟨a, e1, SqL.of e2⟩
    · cases e
  · cases e
def bSum : MF := fun as S => match as with
  | [a] => (match cellInts S a with
    | some ns => .ok (.int ns.sum) S
    | none => .no)
  | _ => .no
theorem bSum_ok : CallF C bSum (rSum C.K) := by
  intro ρ S H as xs Q W r h q
  unfold bSum at q
  split at q
  · obtain ⟨x, rfl, h1⟩ := rvs_one h
    split at q
    · rename_i ns e
      obtain ⟨a, rfl, t⟩ := cellInts_ok r e h1
      exact ⟨a, ns, rfl, t, PR.now (v := IV.int _) q r (rv_int.mpr rfl)⟩
    · exact q.elim
  · exact q.elim
def maxL : Int → List Int → Int
  | m, [] => m
  | m, x :: r => maxL (if m < x then x else m) r
def minL : Int → List Int → Int
  | m, [] => m
  | m, x :: r => minL (if x < m then x else m) r
theorem maxL_ge : ∀ (l : List Int) (m : Int), m ≤ maxL m l ∧ ∀ y ∈ l, y ≤ maxL m l
  | [], m => ⟨Int.le_refl _, fun _ h => absurd h (by simp)⟩
  | x :: r, m => by
    obtain ⟨h1, h2⟩ := maxL_ge r (if m < x then x else m)
    show m ≤ maxL (if m < x then x else m) r ∧ ∀ y ∈ x :: r, y ≤ maxL (if m < x then x else m) r
    have h3 : m ≤ if m < x then x else m := by split <;> omega
    have h4 : x ≤ if m < x then x else m := by split <;> omega
    refine ⟨by omega, fun y hy => ?_⟩
    rcases List.mem_cons.mp hy with rfl | hy
    · omega
    · exact h2 y hy
theorem maxL_mem : ∀ (l : List Int) (m : Int), maxL m l = m ∨ maxL m l ∈ l
  | [], m => .inl rfl
  | x :: r, m => by
    show maxL (if m < x then x else m) r = m ∨ maxL (if m < x then x else m) r ∈ x :: r
    rcases maxL_mem r (if m < x then x else m) with h | h
    · by_cases c : m < x
      · rw [if_pos c] at h ⊢
        exact .inr (by rw [h]; exact List.mem_cons_self)
      · rw [if_neg c] at h ⊢
        exact .inl h
    · exact .inr (List.mem_cons_of_mem _ h)
theorem minL_ge : ∀ (l : List Int) (m : Int), minL m l ≤ m ∧ ∀ y ∈ l, minL m l ≤ y
  | [], m => ⟨Int.le_refl _, fun _ h => absurd h (by simp)⟩
  | x :: r, m => by
    obtain ⟨h1, h2⟩ := minL_ge r (if x < m then x else m)
    show minL (if x < m then x else m) r ≤ m ∧ ∀ y ∈ x :: r, minL (if x < m then x else m) r ≤ y
    have h3 : (if x < m then x else m) ≤ m := by split <;> omega
    have h4 : (if x < m then x else m) ≤ x := by split <;> omega
    refine ⟨by omega, fun y hy => ?_⟩
    rcases List.mem_cons.mp hy with rfl | hy
    · omega
    · exact h2 y hy
theorem minL_mem : ∀ (l : List Int) (m : Int), minL m l = m ∨ minL m l ∈ l
  | [], m => .inl rfl
  | x :: r, m => by
    show minL (if x < m then x else m) r = m ∨ minL (if x < m then x else m) r ∈ x :: r
    rcases minL_mem r (if x < m then x else m) with h | h
    · by_cases c : x < m
      · rw [if_pos c] at h ⊢
        exact .inr (by rw [h]; exact List.mem_cons_self)
      · rw [if_neg c] at h ⊢
        exact .inl h
    · exact .inr (List.mem_cons_of_mem _ h)
def bMax : MF := fun as S => match as with
  | [.int i, .int j] => .ok (.int (if j > i then j else i)) S
  | [a] => (match cellInts S a with
    | some (x :: ns) => .ok (.int (maxL x ns)) S
    | _ => .no)
  | _ => .no
def bMin : MF := fun as S => match as with
  | [.int i, .int j] => .ok (.int (if j < i then j else i)) S
  | [a] => (match cellInts S a with
    | some (x :: ns) => .ok (.int (minL x ns)) S
    | _ => .no)
  | _ => .no
def rMax2 (K : PySem.W.Frag) : List V → Hp → VK → Prop := fun xs H Q => (∃ i j, xs = [.int i, .int j] ∧ Q (.int (if j > i then j else i)) H) ∨ rMax K xs H Q
def rMin2 (K : PySem.W.Frag) : List V → Hp → VK → Prop := fun xs H Q => (∃ i j, xs = [.int i, .int j] ∧ Q (.int (if j < i then j else i)) H) ∨ rMin K xs H Q
theorem call_maxA (hc : X.calm = true) : CallR X (.builtin "max") (rMax2 X.K) := (call_max2 hc).or (cr_max hc)
theorem call_minA (hc : X.calm = true) : CallR X (.builtin "min") (rMin2 X.K) := (call_min2 hc).or (cr_min hc)
theorem bMax_ok : CallF C bMax (rMax2 C.K) := by
  intro ρ S H as xs Q W r h q
  unfold bMax at q
  split at q
  · obtain ⟨x, y, rfl, h1, h2⟩ := rvs_two h
    have e1 := rv_int.mp h1
    have e2 := rv_int.mp h2
    subst e1 e2
    exact .inl ⟨_, _, rfl, PR.now (v := IV.int _) q r (rv_int.mpr rfl)⟩
  · obtain ⟨x, rfl, h1⟩ := rvs_one h
    split at q
    · rename_i z ns e
      obtain ⟨a, rfl, t⟩ := cellInts_ok r e h1
      refine .inr ⟨a, _, rfl, t, Nat.zero_lt_succ _, fun m h3 h4 => ?_⟩
      obtain ⟨g1, g2⟩ := maxL_ge ns z
      have em : m = maxL z ns := by
        have i1 : maxL z ns ≤ m := h4 _ (by
          rcases maxL_mem ns z with e | e
          · rw [e]; exact List.mem_cons_self
          · exact List.mem_cons_of_mem _ e)
        have i2 : m ≤ maxL z ns := by
          rcases List.mem_cons.mp h3 with rfl | h3
          · exact g1
          · exact g2 m h3
        omega
      rw [em]
      exact PR.now (v := IV.int _) q r (rv_int.mpr rfl)
    · exact q.elim
  · exact q.elim
theorem bMin_ok : CallF C bMin (rMin2 C.K) := by
  intro ρ S H as xs Q W r h q
  unfold bMin at q
  split at q
  · obtain ⟨x, y, rfl, h1, h2⟩ := rvs_two h
    have e1 := rv_int.mp h1
    have e2 := rv_int.mp h2
    subst e1 e2
    exact .inl ⟨_, _, rfl, PR.now (v := IV.int _) q r (rv_int.mpr rfl)⟩
  · obtain ⟨x, rfl, h1⟩ := rvs_one h
    split at q
    · rename_i z ns e
      obtain ⟨a, rfl, t⟩ := cellInts_ok r e h1
      refine .inr ⟨a, _, rfl, t, Nat.zero_lt_succ _, fun m h3 h4 => ?_⟩
      obtain ⟨g1, g2⟩ := minL_ge ns z
      have em : m = minL z ns := by
        have i1 : m ≤ minL z ns := h4 _ (by
          rcases minL_mem ns z with e | e
          · rw [e]; exact List.mem_cons_self
          · exact List.mem_cons_of_mem _ e)
        have i2 : minL z ns ≤ m := by
          rcases List.mem_cons.mp h3 with rfl | h3
          · exact g1
          · exact g2 m h3
        omega
      rw [em]
      exact PR.now (v := IV.int _) q r (rv_int.mpr rfl)
    · exact q.elim
  · exact q.elim
def cellBls (S : Sto) : IV → Option (List Bool)
  | .ref n => (match S.get n with
    | some (.lst xs) => blsOf xs
    | none => none)
  | _ => none
theorem cellBls_ok {ρ : Map} {S : Sto} {H : Hp} {x : IV} {v : V} {ns : List Bool} (r : Rel C ρ S H) (e : cellBls S x = some ns) (h : RV C ρ H x v) : ∃ a, v = .ref a ∧ SqL C.K H a (ns.map V.bl) := by
  unfold cellBls at e
  split at e
  · split at e
    · rename_i xs g
      obtain ⟨a, vs, _, e1, e2, e3⟩ := cell_at r h g
      rw [blsOf_ok e e3] at e2
      exact ⟨a, e1, SqL.of e2⟩
    · cases e
  · cases e
def bAll : MF := fun as S => match as with
  | [a] => (match cellBls S a with
    | some ns => .ok (.bl (ns.all id)) S
    | none => .no)
  | _ => .no
def bAny : MF := fun as S => match as with
  | [a] => (match cellBls S a with
    | some ns => .ok (.bl (ns.any id)) S
    | none => .no)
  | _ => .no
theorem bAll_ok : CallF C bAll (rAll C.K) := by
  intro ρ S H as xs Q W r h q
  unfold bAll at q
  split at q
  · obtain ⟨x, rfl, h1⟩ := rvs_one h
    split at q
    · rename_i ns e
      obtain ⟨a, rfl, t⟩ := cellBls_ok r e h1
      exact ⟨a, ns, rfl, t, PR.now (v := IV.bl _) q r (rv_bl.mpr rfl)⟩
    · exact q.elim
  · exact q.elim
theorem bAny_ok : CallF C bAny (rAny C.K) := by
  intro ρ S H as xs Q W r h q
  unfold bAny at q
  split at q
  · obtain ⟨x, rfl, h1⟩ := rvs_one h
    split at q
    · rename_i ns e
      obtain ⟨a, rfl, t⟩ := cellBls_ok r e h1
      exact ⟨a, ns, rfl, t, PR.now (v := IV.bl _) q r (rv_bl.mpr rfl)⟩
    · exact q.elim
  · exact q.elim
/-! ### tuple, list -/
def bTuple : MF := fun as S => match as with
  | [a] => (match itemsOf S a with
    | some xs => .ok (.tup xs) S
    | none => .no)
  | _ => .no
def bList : MF := fun as S => match as with
  | [a] => (match itemsOf S a with
    | some xs => .ok (.ref S.top) (S.new (.lst xs))
    | none => .no)
  | _ => .no
theorem bTuple_ok : CallF C bTuple (fun xs H Q => ∃ p ys, xs = [.ref p] ∧ ((SqL C.K H p ys ∧ ∀ l, H l = none → Q (.ref l) (upd H l (.tup ys))) ∨ (SqT C.K H p ys ∧ Q (.ref p) H))) := by
  intro ρ S H as xs Q W r h q
  unfold bTuple at q
  split at q
  · obtain ⟨x, rfl, h1⟩ := rvs_one h
    split at q
    · rename_i ys hy
      obtain ⟨p, vs, rfl, t, e⟩ := itemsOf_ok r hy h1
      refine ⟨p, vs, rfl, ?_⟩
      rcases t with t | t
      · refine .inl ⟨t, fun l hl => ?_⟩
        obtain ⟨g1, g2, g3⟩ := new_tup r hl e
        exact q _ _ _ g1 g2 g3
      · exact .inr ⟨t, PR.now (v := IV.tup _) q r (rv_tup.mpr ⟨p, vs, rfl, t, e⟩)⟩
    · exact q.elim
  · exact q.elim
theorem bList_ok : CallF C bList (fun xs H Q => ∃ p ys, xs = [.ref p] ∧ (SqL C.K H p ys ∨ SqT C.K H p ys) ∧ ∀ l, H l = none → Q (.ref l) (upd H l (.lst ys))) := by
  intro ρ S H as xs Q W r h q
  unfold bList at q
  split at q
  · obtain ⟨x, rfl, h1⟩ := rvs_one h
    split at q
    · rename_i ys hy
      obtain ⟨p, vs, rfl, t, e⟩ := itemsOf_ok r hy h1
      refine ⟨p, vs, rfl, t, fun l hl => ?_⟩
      obtain ⟨g1, g2, g3⟩ := new_lst r hl e
      exact q _ _ _ g1 g2 g3
    · exact q.elim
  · exact q.elim
/-! ### gcd, divmod -/
def bGcd : MF := fun as S => match as with
  | [.int a, .int b] => .ok (.int ((Nat.gcd a.natAbs b.natAbs : Nat) : Int)) S
  | _ => .no
theorem bGcd_ok : CallF C bGcd rGcd := by
  intro ρ S H as xs Q W r h q
  unfold bGcd at q
  split at q
  · obtain ⟨x, y, rfl, h1, h2⟩ := rvs_two h
    have e1 := rv_int.mp h1
    have e2 := rv_int.mp h2
    subst e1 e2
    exact ⟨_, _, rfl, PR.now (v := IV.int _) q r (rv_int.mpr rfl)⟩
  · exact q.elim
theorem qe_callFun {x : Str} {id : String} {r : List V → Hp → VK → Prop} {f : MF} {e : Expr} {es : List Expr} {ms : MA} {p pos : Pos} (hc : CallR X (.builtin id) r) (hf : CallF C f r) (hg : Gl X x) (hm : X.mg x = some (.builtin id)) (ha : PA X (e :: es) (tA C ms W)) (hdb : (x == ("__debug__" : Str)) = false := by decide)
    (he : starEach (e :: es) X.env = (false, eval e X.env) :: starEach es X.env := by rfl) (hpl : (backTo pos (starEach es X.env)).any (·.1) = false := by rfl) : PE X (.Call (.Name x p) (e :: es) [] pos) (tI C (mCall f ms) W) :=
  pe_mono (pe_callBfun hc hg hm ha hdb he hpl) fun _ _ _ h => callF_mono hf h
def bDivmod : MF := fun as S => match as with
  | [.int i, .int j] => bif (decide (0 < j) && decide (j < 1073741824)) then .ok (.tup [.int (i / j), .int (i % j)]) S else .no
  | _ => .no
theorem bDivmod_ok : CallF C bDivmod (fun xs H Q => ∃ i j, xs = [.int i, .int j] ∧ CDiv i j ∧ ∀ p, H p = none → Q (.ref p) (upd H p (.tup [.int (i / j), .int (i % j)]))) := by
  intro ρ S H as xs Q W r h q
  unfold bDivmod at q
  split at q
  · rename_i i j
    obtain ⟨x, y, rfl, h1, h2⟩ := rvs_two h
    have e1 := rv_int.mp h1
    have e2 := rv_int.mp h2
    subst e1 e2
    cases z : (decide (0 < j) && decide (j < 1073741824)) with
    | false => rw [z] at q; exact q.elim
    | true =>
      rw [z] at q
      rw [Bool.and_eq_true] at z
      refine ⟨i, j, rfl, ⟨of_decide_eq_true z.1, of_decide_eq_true z.2⟩, fun p hp => ?_⟩
      have e : RVs C ρ H [.int (i / j), .int (i % j)] [.int (i / j), .int (i % j)] := rvs_cons.mpr ⟨_, _, rfl, rv_int.mpr rfl, rvs_cons.mpr ⟨_, _, rfl, rv_int.mpr rfl, rvs_nil.mpr rfl⟩⟩
      obtain ⟨g1, g2, g3⟩ := new_tup r hp e
      exact q _ _ _ g1 g2 g3
  · exact q.elim
/-! ### isinstance of built-in classes -/
def tyOf (S : Sto) : IV → Option BT
  | .non => some .none
  | .bl _ => some .bool
  | .int _ => some .int
  | .str _ => some .str
  | .tup _ => some .tuple
  | .frz _ => some .list
  | .ref n => (match S.get n with
    | some (.lst _) => some .list
    | none => none)
  | _ => none
def isB : BT → BT → Bool
  | .int, .int => true
  | .bool, .int => true
  | .bool, .bool => true
  | .str, .str => true
  | .tuple, .tuple => true
  | .list, .list => true
  | .dict, .dict => true
  | _, _ => false
theorem isB_ok (a b : BT) (h : b ≠ .none) : kitB a.name b.name = some (isB a b) := by
  cases b with
  | none => exact absurd rfl h
  | int => cases a <;> decide +kernel
  | bool => cases a <;> decide +kernel
  | str => cases a <;> decide +kernel
  | tuple => cases a <;> decide +kernel
  | list => cases a <;> decide +kernel
  | dict => cases a <;> decide +kernel
theorem tyOf_ok {ρ : Map} {S : Sto} {H : Hp} {x : IV} {v : V} {t : BT} (r : Rel C ρ S H) (e : tyOf S x = some t) (h : RV C ρ H x v) : TyX C.K H v (.type t.name) := by
  cases x with
  | non => cases e; rw [rv_non.mp h]; exact .base .non
  | bl _ => cases e; rw [rv_bl.mp h]; exact .base (.bl _)
  | int _ => cases e; rw [rv_int.mp h]; exact .base (.int _)
  | str _ => cases e; rw [rv_str.mp h]; exact .base (.str _)
  | tup xs =>
    cases e
    obtain ⟨a, vs, rfl, t, _⟩ := rv_tup.mp h
    rcases t with (t | ⟨o, t⟩) | ⟨o, its, n, t, c, _⟩
    · exact .base (.tup t)
    · exact .fTuple t
    · exact .kTuple t c
  | frz xs =>
    cases e
    obtain ⟨a, vs, rfl, t, _⟩ := rv_frz.mp h
    rcases t with ⟨o, t⟩ | ⟨o, its, n, t, c, _⟩
    · exact .base (.frz t)
    · exact .kList t c
  | ref n =>
    unfold tyOf at e
    dsimp only at e
    split at e
    · rename_i xs g
      cases e
      obtain ⟨a, vs, _, rfl, t, _⟩ := cell_at r h g
      exact .base (.lst t)
    · cases e
  | glo _ => cases e
  | ty _ => cases e
def noneB : BT → Bool
  | .none => true
  | _ => false
def bIsI : MF := fun as S => match as with
  | [x, .ty n] => (match tyOf S x with
    | some t => bif noneB n then .no else .ok (.bl (isB t n)) S
    | none => .no)
  | _ => .no
theorem bIsI_ok : CallF C bIsI (rIsi C.K) := by
  intro ρ S H as xs Q W r h q
  unfold bIsI at q
  split at q
  · rename_i y n
    obtain ⟨x, c, rfl, h1, h2⟩ := rvs_two h
    have e2 := rv_ty.mp h2
    subst e2
    cases e : tyOf S y with
    | none => rw [e] at q; exact q.elim
    | some t =>
      rw [e] at q
      dsimp only at q
      cases z : noneB n with
      | true => rw [z] at q; exact q.elim
      | false =>
        rw [z] at q
        have hn : n ≠ .none := fun w => by rw [w] at z; cases z
        exact ⟨x, _, _, _, _, rfl, .ty _, tyOf_ok r e h1, kit_ty (isB_ok t n hn), PR.now (v := IV.bl _) q r (rv_bl.mpr rfl)⟩
  · exact q.elim
theorem qe_ty {x : Str} {t : BT} {pos : Pos} (hg : Gl X x) (hm : X.mg x = none) (hv : bootBuiltins x = some (.type t.name)) (hn : x ≠ "__name__" := by decide) (hd : (x == ("__debug__" : Str)) = false := by decide) : PE X (.Name x pos) (tI C (mC (.ty t)) W) :=
  qe_c (pe_bltn (v := .ty t.name) hg hm hv rfl hn hd) fun _ _ => rv_ty.mpr rfl
/-! ### repr of what stands alone -/
def bRepr : MF := fun as S => match as with
  | [.bl b] => .ok (.str (if b then "True" else "False")) S
  | [.non] => .ok (.str "None") S
  | [.int i] => bif Nat.blt i.natAbs.log2 1920 then .ok (.str (toString i)) S else .no
  | _ => .no
def rRepr : List V → Hp → VK → Prop := fun xs H Q => (∃ b, xs = [.bl b] ∧ Q (.str (if b then "True" else "False")) H) ∨ (xs = [.non] ∧ Q (.str "None") H) ∨ ∃ i : Int, xs = [.int i] ∧ i.natAbs.log2 < 1920 ∧ Q (.str (toString i)) H
theorem call_reprA : CallR X (.builtin "repr") rRepr := by
  intro pins s σ H xs us Q I r h
  rcases h with ⟨b, rfl, q⟩ | ⟨rfl, q⟩ | ⟨i, rfl, hz, q⟩
  · obtain ⟨u, rfl, r1⟩ := vals1 r
    cases (show u = Value.bool b from r1)
    exact PySem.P.repr_of_bool ⟨.str _, H, I.tok _, ⟨_, rfl⟩, q⟩
  · obtain ⟨u, rfl, r1⟩ := vals1 r
    cases (show u = Value.none from r1)
    exact PySem.P.repr_of_none ⟨.str _, H, I.tok _, ⟨_, rfl⟩, q⟩
  · obtain ⟨u, rfl, t, rfl⟩ := vals1 r
    exact PySem.P.repr_of_int hz ⟨.str _, H, I.tok _, ⟨_, rfl⟩, q⟩
theorem bRepr_ok : CallF C bRepr rRepr := by
  intro ρ S H as xs Q W r h q
  unfold bRepr at q
  split at q
  · obtain ⟨x, rfl, h1⟩ := rvs_one h
    have e := rv_bl.mp h1
    subst e
    exact .inl ⟨_, rfl, PR.now (v := IV.str _) q r (rv_str.mpr rfl)⟩
  · obtain ⟨x, rfl, h1⟩ := rvs_one h
    have e := rv_non.mp h1
    subst e
    exact .inr (.inl ⟨rfl, PR.now (v := IV.str _) q r (rv_str.mpr rfl)⟩)
  · rename_i i
    obtain ⟨x, rfl, h1⟩ := rvs_one h
    have e := rv_int.mp h1
    subst e
    cases z : Nat.blt i.natAbs.log2 1920 with
    | false => rw [z] at q; exact q.elim
    | true =>
      rw [z] at q
      exact .inr (.inr ⟨i, rfl, Nat.le_of_ble_eq_true z, PR.now (v := IV.str _) q r (rv_str.mpr rfl)⟩)
  · exact q.elim
end
end FX

set_option Elab.async false
set_option linter.all false
set_option maxRecDepth 100000
set_option maxHeartbeats 2000000
set_option autoImplicit false
/-! FX6: statements, targets, loops. -/
namespace FX
open PySem PySem.Spec PyProof.Rows L2
inductive Fl where
  | nx (E : Env') (S : Sto)
  | rt (v : IV) (S : Sto)
  | bk (E : Env') (S : Sto)
  | ct (E : Env') (S : Sto)
  | ex (e : Ex) (E : Env') (S : Sto)
  | no
abbrev MS := Env' → Sto → Fl
def PF (C : Wd) (r : Fl) (ρ : Map) (S : Sto) (H : Hp) (D : Ends) (W : WX) : Prop := match r with
  | .nx E' S' => ∀ ρ' H' σ', Ext ρ S H ρ' S' H' → Rel C ρ' S' H' → RE C ρ' H' E' σ' → D.nx σ' H'
  | .rt v S' => ∀ ρ' H' x, Ext ρ S H ρ' S' H' → Rel C ρ' S' H' → RV C ρ' H' v x → D.rt x H'
  | .bk E' S' => ∀ ρ' H' σ', Ext ρ S H ρ' S' H' → Rel C ρ' S' H' → RE C ρ' H' E' σ' → D.bk σ' H'
  | .ct E' S' => ∀ ρ' H' σ', Ext ρ S H ρ' S' H' → Rel C ρ' S' H' → RE C ρ' H' E' σ' → D.ct σ' H'
  | .ex e E' S' => ∀ ρ' H' σ' cls d, Ext ρ S H ρ' S' H' → Rel C ρ' S' H' → RE C ρ' H' E' σ' → RX C ρ' H' e cls d → W cls d σ' H'
  | .no => False
theorem PF.ext {C : Wd} {r : Fl} {ρ ρ1 : Map} {S S1 : Sto} {H H1 : Hp} {D : Ends} {W : WX} (h : PF C r ρ S H D W) (e1 : Ext ρ S H ρ1 S1 H1) : PF C r ρ1 S1 H1 D W := by
  cases r with
  | nx E' S' => exact fun ρ2 H2 σ2 e2 r2 q2 => h ρ2 H2 σ2 (e1.trans e2) r2 q2
  | rt v S' => exact fun ρ2 H2 σ2 e2 r2 q2 => h ρ2 H2 σ2 (e1.trans e2) r2 q2
  | bk E' S' => exact fun ρ2 H2 σ2 e2 r2 q2 => h ρ2 H2 σ2 (e1.trans e2) r2 q2
  | ct E' S' => exact fun ρ2 H2 σ2 e2 r2 q2 => h ρ2 H2 σ2 (e1.trans e2) r2 q2
  | ex e E' S' => exact fun ρ2 H2 σ2 c d e2 r2 q2 => h ρ2 H2 σ2 c d (e1.trans e2) r2 q2
  | no => exact h
def tS (C : Wd) (m : MS) (W : WX) : TS := fun D σ H => ∃ ρ E S, RE C ρ H E σ ∧ Rel C ρ S H ∧ PF C (m E S) ρ S H D W
/-- an expression, then .. -/
def R.to {α : Type} (r : R α) (E : Env') (k : α → Sto → Fl) : Fl := match r with
  | .ok a S => k a S
  | .ex e S => .ex e E S
  | .no => .no
theorem PF.to {C : Wd} {α β : Type} {rel : Map → Hp → α → β → Prop} {r : R α} {E : Env'} {k : α → Sto → Fl} {ρ : Map} {S : Sto} {H : Hp} {D : Ends} {W : WX} {σ : L2.St} (q : RE C ρ H E σ) (r0 : Rel C ρ S H)
    (h : PF C (r.to E k) ρ S H D W) : PR C rel r ρ S H (fun x H1 => ∃ ρ1 v S1, Ext ρ S H ρ1 S1 H1 ∧ Rel C ρ1 S1 H1 ∧ rel ρ1 H1 v x ∧ PF C (k v S1) ρ1 S1 H1 D W) (fun c d H' => W c d σ H') := by
  cases r with
  | ok v S1 => exact fun ρ1 H1 x e1 r1 q1 => ⟨ρ1, v, S1, e1, r1, q1, PF.ext h e1⟩
  | ex e S1 => exact fun ρ1 H1 c d e1 r1 q1 => h ρ1 H1 σ c d e1 r1 (q.ext e1 r0) q1
  | no => exact h
section
variable {X : Cx} {C : Wd} {W : WX}
theorem ps_mono {e : Stmt} {t t' : TS} (h : PS X e t) (m : ∀ D σ H, t' D σ H → t D σ H) : PS X e t' := ⟨fun pins s σ H D I q => h.run pins s σ H D I (m _ _ _ q)⟩
theorem pss_mono {e : List Stmt} {t t' : TS} (h : PSs X e t) (m : ∀ D σ H, t' D σ H → t D σ H) : PSs X e t' := ⟨fun pins s σ H D I q => h.run pins s σ H D I (m _ _ _ q)⟩
def mSkip : MS := fun E S => .nx E S
def mBrk : MS := fun E S => .bk E S
def mCont : MS := fun E S => .ct E S
def mStuck : MS := fun _ _ => .no
def mSeq (a b : MS) : MS := fun E S => match a E S with
  | .nx E' S' => b E' S'
  | .rt v S' => .rt v S'
  | .bk E' S' => .bk E' S'
  | .ct E' S' => .ct E' S'
  | .ex e E' S' => .ex e E' S'
  | .no => .no
theorem PF.nxt {E : Env'} {S : Sto} {ρ : Map} {H : Hp} {D : Ends} {σ : L2.St} (h : PF C (.nx E S) ρ S H D W) (q : RE C ρ H E σ) (r : Rel C ρ S H) : D.nx σ H := h ρ H σ r.refl r q
theorem qs_nil : PSs X [] (tS C mSkip W) := pss_mono pss_nil fun D σ H ⟨ρ, E, S, q, r, h⟩ => PF.nxt h q r
theorem qs_pass {pos : Pos} : PS X (.Pass pos) (tS C mSkip W) := ps_mono ps_pass fun D σ H ⟨ρ, E, S, q, r, h⟩ => PF.nxt h q r
theorem qs_break {pos : Pos} : PS X (.Break pos) (tS C mBrk W) := ps_mono ps_break fun D σ H ⟨ρ, E, S, q, r, h⟩ => h ρ H σ r.refl r q
theorem qs_cont {pos : Pos} : PS X (.Continue pos) (tS C mCont W) := ps_mono ps_continue fun D σ H ⟨ρ, E, S, q, r, h⟩ => h ρ H σ r.refl r q
theorem qs_stuck {st : Stmt} : PS X st (tS C mStuck W) := ps_mono ps_never fun D σ H ⟨ρ, E, S, q, r, h⟩ => h.elim
theorem qs_one {st : Stmt} {m : MS} (h : PS X st (tS C m W)) : PSs X [st] (tS C m W) := pss_one h
theorem qs_cons {st : Stmt} {rest : List Stmt} {a b : MS} (h1 : PS X st (tS C a W)) (h2 : PSs X rest (tS C b W)) : PSs X (st :: rest) (tS C (mSeq a b) W) :=
  pss_mono (pss_cons h1 h2) fun D σ H h => by
    obtain ⟨ρ, E, S, q, r, h⟩ := h
    refine ⟨ρ, E, S, q, r, ?_⟩
    unfold mSeq at h
    cases e : a E S with
    | nx E' S' =>
      rw [e] at h
      exact fun ρ1 H1 σ1 e1 r1 q1 => ⟨ρ1, E', S', q1, r1, PF.ext h e1⟩
    | rt v S' => rw [e] at h; exact h
    | bk E' S' => rw [e] at h; exact h
    | ct E' S' => rw [e] at h; exact h
    | ex x E' S' => rw [e] at h; exact h
    | no => rw [e] at h; exact h
/-! ### small statements -/
def mDrop (m : ME) : MS := fun E S => (m E S).to E fun _ S1 => .nx E S1
theorem qs_expr {e : Expr} {m : ME} {pos : Pos} (he : PE X e (tI C m W)) (hs : swapsWith e none pos.line X.env = pure false := by rfl) : PS X (.Expr e pos) (tS C (mDrop m) W) :=
  ps_mono (ps_expr he hs) fun D σ H h => by
    obtain ⟨ρ, E, S, q, r, h⟩ := h
    exact ⟨ρ, E, S, q, r, PR.mono (PF.to (rel := RV C) q r h) (fun x H1 ⟨ρ1, v, S1, e1, r1, x1, h1⟩ => PF.nxt h1 (q.ext e1 r) r1) fun _ _ _ z => z⟩
def mRet (m : ME) : MS := fun E S => (m E S).to E fun v S1 => .rt v S1
theorem qs_ret {e : Expr} {m : ME} {pos : Pos} (he : PE X e (tI C m W)) : PS X (.Return (some e) pos) (tS C (mRet m) W) :=
  ps_mono (ps_ret he) fun D σ H h => by
    obtain ⟨ρ, E, S, q, r, h⟩ := h
    exact ⟨ρ, E, S, q, r, PR.mono (PF.to (rel := RV C) q r h) (fun x H1 ⟨ρ1, v, S1, e1, r1, x1, h1⟩ => h1 ρ1 H1 x r1.refl r1 x1) fun _ _ _ z => z⟩
def mRetN : MS := fun _ S => .rt .non S
theorem qs_retN {pos : Pos} : PS X (.Return none pos) (tS C mRetN W) := ps_mono ps_retN fun D σ H ⟨ρ, E, S, q, r, h⟩ => h ρ H .non r.refl r (rv_non.mpr rfl)
def mIfS (t : MT) (a b : MS) : MS := fun E S => (t E S).to E fun c S1 => bif c then a E S1 else b E S1
theorem qs_if {c : Expr} {p q : List Stmt} {t : MT} {a b : MS} {pos : Pos} (hc : PT X c (tT C t W)) (ha : PSs X p (tS C a W)) (hb : PSs X q (tS C b W)) : PS X (.If c p q pos) (tS C (mIfS t a b) W) :=
  ps_mono (ps_if hc ha hb) fun D σ H h => by
    obtain ⟨ρ, E, S, q, r, h⟩ := h
    refine ⟨ρ, E, S, q, r, PR.mono (PF.to (rel := relB) q r h) (fun x H1 ⟨ρ1, v, S1, e1, r1, x1, h1⟩ => ?_) fun _ _ _ z => z⟩
    cases x1
    cases x with
    | true => exact ⟨ρ1, E, S1, q.ext e1 r, r1, h1⟩
    | false => exact ⟨ρ1, E, S1, q.ext e1 r, r1, h1⟩
def mSet (i : Nat) (m : ME) : MS := fun E S => (m E S).to E fun v S1 => .nx (E.set i (some v)) S1
theorem qs_set {i : Nat} {x : Str} {e : Expr} {m : ME} {pos pos' : Pos} (hN : X.N.Nodup) (hi : X.N[i]? = some x) (hx : Loc X.env.scope x) (he : PE X e (tI C m W)) (hs : swapsWith e (some (.Name x pos')) pos.line X.env = pure false := by rfl) (hf : X.fn x = true ∨ X.env.scope.names.lookup x = some .local := by first | exact .inl rfl | exact .inr rfl | assumption) :
    PS X (.Assign [.Name x pos'] e pos) (tS C (mSet i m) W) :=
  ps_mono (ps_set hN hi hx he hs hf) fun D σ H h => by
    obtain ⟨ρ, E, S, q, r, h⟩ := h
    exact ⟨ρ, E, S, q, r, PR.mono (PF.to (rel := RV C) q r h) (fun x H1 ⟨ρ1, v, S1, e1, r1, x1, h1⟩ => PF.nxt h1 ((q.ext e1 r).set i x1) r1) fun _ _ _ z => z⟩
def mPar (i j : Nat) (ms : MA) : MS := fun E S => (ms E S).to E fun vs S1 => match vs with
  | [v, w] => .nx ((E.set i (some v)).set j (some w)) S1
  | _ => .no
theorem qs_par {i j : Nat} {x y : Str} {a b : Expr} {ms : MA} {px py pt pos : Pos} {kt k2 pt2} (hc : X.calm = true) (hN : X.N.Nodup) (hi : X.N[i]? = some x) (hj : X.N[j]? = some y) (hij : i ≠ j)
    (hx : X.env.scope.names.lookup x = some .local) (hy : X.env.scope.names.lookup y = some .local) (ha : PA X [a, b] (tA C ms W))
    (hw : swappedStores [.Tuple [.Name x px, .Name y py] kt pt] (.Tuple [a, b] k2 pt2) X.env = pure (some [x, y]))
    (hs : swapsWithSole [.Tuple [.Name x px, .Name y py] kt pt] (.Tuple [a, b] k2 pt2) pos.line X.env = pure false := by rfl) :
    PS X (.Assign [.Tuple [.Name x px, .Name y py] kt pt] (.Tuple [a, b] k2 pt2) pos) (tS C (mPar i j ms) W) :=
  ps_mono (ps_par hc hN hi hj hij hx hy ha hw hs) fun D σ H h => by
    obtain ⟨ρ, E, S, q, r, h⟩ := h
    refine ⟨ρ, E, S, q, r, PR.mono (PF.to (rel := RVs C) q r h) (fun x H1 ⟨ρ1, v, S1, e1, r1, x1, h1⟩ => ?_) fun _ _ _ z => z⟩
    split at h1
    · obtain ⟨u, w, rfl, g1, g2⟩ := rvs_two x1
      exact ⟨u, w, rfl, PF.nxt h1 (((q.ext e1 r).set i g1).set j g2) r1⟩
    · exact h1.elim
theorem rvs_three {ρ : Map} {H : Hp} {a b c : IV} {xs : List V} (h : RVs C ρ H [a, b, c] xs) : ∃ x y z, xs = [x, y, z] ∧ RV C ρ H a x ∧ RV C ρ H b y ∧ RV C ρ H c z := by
  obtain ⟨v, r, rfl, h1, h2⟩ := rvs_cons.mp h
  obtain ⟨y, z, rfl, h3, h4⟩ := rvs_two h2
  exact ⟨v, y, z, rfl, h1, h3, h4⟩
def mPar3 (i j l : Nat) (ms : MA) : MS := fun E S => (ms E S).to E fun vs S1 => match vs with
  | [v, w, u] => .nx (((E.set i (some v)).set j (some w)).set l (some u)) S1
  | _ => .no
theorem qs_par3 {i j l : Nat} {x y z : Str} {a b c : Expr} {ms : MA} {px py pz pt pos : Pos} {kt k2 pt2} (hc : X.calm = true) (hN : X.N.Nodup) (hi : X.N[i]? = some x) (hj : X.N[j]? = some y) (hl : X.N[l]? = some z) (hij : i ≠ j) (hil : i ≠ l) (hjl : j ≠ l)
    (hx : X.env.scope.names.lookup x = some .local) (hy : X.env.scope.names.lookup y = some .local) (hz : X.env.scope.names.lookup z = some .local) (ha : PA X [a, b, c] (tA C ms W))
    (hw : swappedStores [.Tuple [.Name x px, .Name y py, .Name z pz] kt pt] (.Tuple [a, b, c] k2 pt2) X.env = pure (some [x, y, z]))
    (hs : swapsWithSole [.Tuple [.Name x px, .Name y py, .Name z pz] kt pt] (.Tuple [a, b, c] k2 pt2) pos.line X.env = pure false := by rfl) :
    PS X (.Assign [.Tuple [.Name x px, .Name y py, .Name z pz] kt pt] (.Tuple [a, b, c] k2 pt2) pos) (tS C (mPar3 i j l ms) W) :=
  ps_mono (ps_par3 hc hN hi hj hl hij hil hjl hx hy hz ha hw hs) fun D σ H h => by
    obtain ⟨ρ, E, S, q, r, h⟩ := h
    refine ⟨ρ, E, S, q, r, PR.mono (PF.to (rel := RVs C) q r h) (fun x H1 ⟨ρ1, v, S1, e1, r1, x1, h1⟩ => ?_) fun _ _ _ z => z⟩
    split at h1
    · obtain ⟨u, w, t, rfl, g1, g2, g3⟩ := rvs_three x1
      exact ⟨u, w, t, rfl, PF.nxt h1 ((((q.ext e1 r).set i g1).set j g2).set l g3) r1⟩
    · exact h1.elim
/-! ### targets -/
inductive Tg where
  | name (i : Nat)
  | tup (ts : List Tg)
mutual
def Tg.slots : Tg → List Nat
  | .name i => [i]
  | .tup ts => Tg.slotss ts
def Tg.slotss : List Tg → List Nat
  | [] => []
  | t :: ts => t.slots ++ Tg.slotss ts
end
mutual
def bindT : Tg → IV → Env' → Option Env'
  | .name i, v, E => some (E.set i (some v))
  | .tup ts, .tup vs, E => bindTs ts vs E
  | .tup _, _, _ => none
def bindTs : List Tg → List IV → Env' → Option Env'
  | [], [], E => some E
  | t :: ts, v :: vs, E => match bindT t v E with
    | some E' => bindTs ts vs E'
    | none => none
  | _, _, _ => none
end
def OnlyAt (σ σ' : L2.St) (l : List Nat) : Prop := σ'.length = σ.length ∧ ∀ j, j ∉ l → σ'[j]? = σ[j]?
def gI (C : Wd) (b : Tg) : TG := fun x σ H Q => ∃ ρ E S v E', RE C ρ H E σ ∧ Rel C ρ S H ∧ RV C ρ H v x ∧ bindT b v E = some E' ∧ ∀ σ', RE C ρ H E' σ' → OnlyAt σ σ' b.slots → Q σ' H
def gsI (C : Wd) (bs : List Tg) : TGs := fun xs σ H Q => ∃ ρ E S vs E', RE C ρ H E σ ∧ Rel C ρ S H ∧ RVs C ρ H vs xs ∧ bindTs bs vs E = some E' ∧ ∀ σ', RE C ρ H E' σ' → OnlyAt σ σ' (Tg.slotss bs) → Q σ' H
theorem pg_mono {e : Expr} {t t' : TG} (h : PG X e t) (m : ∀ v σ H Q, t' v σ H Q → t v σ H Q) : PG X e t' := ⟨fun pins s σ H v u Q I r q => h.run pins s σ H v u Q I r (m _ _ _ _ q)⟩
theorem pgs_mono {e : List Expr} {t t' : TGs} (h : PGs X e t) (m : ∀ v σ H Q, t' v σ H Q → t v σ H Q) : PGs X e t' := ⟨fun pins s σ H v u Q I r q => h.run pins s σ H v u Q I r (m _ _ _ _ q)⟩
theorem onlyAt_set (σ : L2.St) (i : Nat) (v : Option V) : OnlyAt σ (σ.set i v) [i] := ⟨by simp, fun j hj => by
  rw [List.getElem?_set_ne]
  intro z
  exact hj (by simp [z])⟩
theorem OnlyAt.trans {σ σ1 σ2 : L2.St} {l m : List Nat} (a : OnlyAt σ σ1 l) (b : OnlyAt σ1 σ2 m) : OnlyAt σ σ2 (l ++ m) := ⟨b.1.trans a.1, fun j hj => by
  rw [List.mem_append] at hj
  rw [b.2 j fun z => hj (.inr z), a.2 j fun z => hj (.inl z)]⟩
theorem qg_name {i : Nat} {x : Str} {pos : Pos} (hN : X.N.Nodup) (hi : X.N[i]? = some x) (hx : Loc X.env.scope x) (hf : X.fn x = true ∨ X.env.scope.names.lookup x = some .local := by first | exact .inl rfl | exact .inr rfl | assumption) : PG X (.Name x pos) (gI C (.name i)) :=
  pg_mono (pg_name hN hi hx hf) fun x σ H Q h => by
    obtain ⟨ρ, E, S, v, E', q, r, hv, e, h⟩ := h
    unfold bindT at e
    cases e
    exact h _ (q.set i hv) (onlyAt_set σ i _)
theorem qgs_nil : PGs X [] (gsI C []) := pgs_mono pgs_nil fun xs σ H Q h => by
  obtain ⟨ρ, E, S, vs, E', q, r, hv, e, h⟩ := h
  cases vs with
  | nil =>
    unfold bindTs at e
    cases e
    exact ⟨rvs_nil.mp hv, h σ q ⟨rfl, fun _ _ => rfl⟩⟩
  | cons v vs => unfold bindTs at e; cases e
theorem qgs_cons {e : Expr} {es : List Expr} {b : Tg} {bs : List Tg} (h1 : PG X e (gI C b)) (h2 : PGs X es (gsI C bs))
    (hs : (assignEach (e :: es) X.env).map (·.2) = assign e X.env :: (assignEach es X.env).map (·.2) := by rfl) : PGs X (e :: es) (gsI C (b :: bs)) := pgs_mono (pgs_cons h1 h2 hs) fun xs σ H Q h => by
  obtain ⟨ρ, E, S, vs, E', q, r, hv, e, h⟩ := h
  cases vs with
  | nil => unfold bindTs at e; cases e
  | cons v vs =>
    obtain ⟨x, xr, rfl, g1, g2⟩ := rvs_cons.mp hv
    unfold bindTs at e
    cases e1 : bindT b v E with
    | none => rw [e1] at e; cases e
    | some E1 =>
      rw [e1] at e
      refine ⟨x, xr, rfl, ρ, E, S, v, E1, q, r, g1, e1, fun σ1 q1 o1 => ?_⟩
      exact ⟨ρ, E1, S, vs, E', q1, r, g2, e, fun σ2 q2 o2 => h σ2 q2 (o1.trans o2)⟩
theorem qg_tup {es : List Expr} {k : Nat} {bs : List Tg} {n : Nat} {pos : Pos} (hK : X.K = C.K) (hc : X.calm = true) (h : PGs X es (gsI C bs)) (hb : bs.length = n)
    (hn : (assignEach es X.env).length = n := by rfl) (hst : (assignEach es X.env).findIdx? (·.1) = none := by rfl) : PG X (.Tuple es k pos) (gI C (.tup bs)) := pg_mono (pg_tup hc h hn hst) fun x σ H Q h => by
  obtain ⟨ρ, E, S, v, E', q, r, hv, e, h⟩ := h
  cases v with
  | tup vs =>
    unfold bindT at e
    obtain ⟨a, ws, rfl, t, w⟩ := rv_tup.mp hv
    refine ⟨a, ws, rfl, by rw [hK]; exact t, ?_, ρ, E, S, vs, E', q, r, w, e, h⟩
    rw [w.length]
    have : ∀ (bs : List Tg) (vs : List IV) (E E' : Env'), bindTs bs vs E = some E' → vs.length = bs.length := by
      intro bs
      induction bs with
      | nil =>
        intro vs E E' e
        cases vs with
        | nil => rfl
        | cons v vs => unfold bindTs at e; cases e
      | cons b bs ih =>
        intro vs E E' e
        cases vs with
        | nil => unfold bindTs at e; cases e
        | cons v vs =>
          unfold bindTs at e
          cases e1 : bindT b v E with
          | none => rw [e1] at e; cases e
          | some E1 =>
            rw [e1] at e
            simp [ih vs E1 E' e]
    rw [this bs vs E E' e, hb]
  | _ => unfold bindT at e; cases e
/-- targets = e -/
def mAsg (b : Tg) (m : ME) : MS := fun E S => (m E S).to E fun v S1 => match bindT b v E with
  | some E' => .nx E' S1
  | none => .no
theorem qs_asg {tg e : Expr} {m : ME} {b : Tg} {pos : Pos} (he : PE X e (tI C m W)) (hg : PG X tg (gI C b)) (hs : swapsWithSole [tg] e pos.line X.env = pure false := by rfl) (hw : swappedStores [tg] e X.env = pure none := by rfl)
    (h1 : (assignEach [tg] X.env).map (·.2) = [assign tg X.env] := by rfl) : PS X (.Assign [tg] e pos) (tS C (mAsg b m) W) :=
  ps_mono (ps_asg he hg hs hw h1) fun D σ H h => by
    obtain ⟨ρ, E, S, q, r, h⟩ := h
    refine ⟨ρ, E, S, q, r, PR.mono (PF.to (rel := RV C) q r h) (fun x H1 ⟨ρ1, v, S1, e1, r1, x1, h1⟩ => ?_) fun _ _ _ z => z⟩
    cases e2 : bindT b v E with
    | none => rw [e2] at h1; exact h1.elim
    | some E' =>
      rw [e2] at h1
      exact ⟨ρ1, E, S1, v, E', q.ext e1 r, r1, x1, e2, fun σ' q' _ => PF.nxt h1 q' r1⟩
/-- o[i] = e -/
def fPut (o i v : IV) (S : Sto) : Option Sto := match o, i with
  | .ref n, .int k => (match S.get n with
    | some (.lst xs) => (match ixN xs.length k with
      | some j => some (S.put n (.lst (xs.set j v)))
      | none => none)
    | none => none)
  | _, _ => none
theorem fPut_ok {o i v : IV} {S S' : Sto} {ρ : Map} {H : Hp} {x y z : V} {Q : Hp → Prop} (r : Rel C ρ S H) (ho : RV C ρ H o x) (hi : RV C ρ H i y) (hv : RV C ρ H v z) (e : fPut o i v S = some S')
    (h : ∀ H', Ext ρ S H ρ S' H' → Rel C ρ S' H' → Q H') : rSetL x y z H Q := by
  unfold fPut at e
  split at e
  · rename_i n k
    split at e
    · rename_i xs g
      obtain ⟨a, vs, h1, h2, h3, h4⟩ := cell_at r ho g
      split at e
      · rename_i j hj
        cases e
        obtain ⟨e1, r1⟩ := put_lst r g h1 h3 (h4.set j hv)
        exact ⟨a, vs, k, j, h2, rv_int.mp hi, h3, by rw [h4.length]; exact hj, h _ e1 r1⟩
      · cases e
    · cases e
  · cases e
def mPut (o i m : ME) : MS := fun E S => (m E S).to E fun v S1 => (o E S1).to E fun a S2 => (i E S2).to E fun b S3 => match fPut a b v S3 with
  | some S4 => .nx E S4
  | none => .no
theorem qs_put {o i e : Expr} {mo mi m : ME} {pos pos2 : Pos} (ho : PE X o (tI C mo W)) (hi : PE X i (tI C mi W)) (he : PE X e (tI C m W))
    (ha : ∀ v, assign (.Subscript o i pos) X.env v = (do
      let ov ← holding [v] (eval o X.env)
      let iv ← holding [v, ov] (eval i X.env)
      standAt pos
      holding [v, ov, iv] (setItem ov iv v)
      release [v, ov, iv] []) := by intro _; rfl) (hs : swapsWithSole [.Subscript o i pos] e pos2.line X.env = pure false := by rfl) (hw : swappedStores [.Subscript o i pos] e X.env = pure none := by rfl)
    (h1 : (assignEach [.Subscript o i pos] X.env).map (·.2) = [assign (.Subscript o i pos) X.env] := by rfl) : PS X (.Assign [.Subscript o i pos] e pos2) (tS C (mPut mo mi m) W) :=
  ps_mono (ps_asg he (pg_sub ho hi set_list ha) hs hw h1) fun D σ H h => by
    obtain ⟨ρ, E, S, q, r, h⟩ := h
    refine ⟨ρ, E, S, q, r, PR.mono (PF.to (rel := RV C) q r h) (fun x H1 ⟨ρ1, v, S1, e1, r1, x1, h1⟩ => ?_) fun _ _ _ z => z⟩
    refine ⟨ρ1, E, S1, q.ext e1 r, r1, PR.mono (PF.to (rel := RV C) (q.ext e1 r) r1 h1) (fun y H2 ⟨ρ2, a, S2, e2, r2, x2, h2⟩ => ?_) fun _ _ _ z => z⟩
    refine ⟨ρ2, E, S2, (q.ext e1 r).ext e2 r1, r2, PR.mono (PF.to (rel := RV C) ((q.ext e1 r).ext e2 r1) r2 h2) (fun z H3 ⟨ρ3, b, S3, e3, r3, x3, h3⟩ => ?_) fun _ _ _ z => z⟩
    cases e4 : fPut a b v S3 with
    | none => rw [e4] at h3; exact h3.elim
    | some S4 =>
      rw [e4] at h3
      refine fPut_ok r3 (x2.ext e3 r2) x3 ((x1.ext e2 r1).ext e3 r2) e4 fun H4 e5 r5 => ?_
      exact h3 ρ3 H4 σ e5 r5 ((((q.ext e1 r).ext e2 r1).ext e3 r2).ext e5 r3)
/-- name op= e -/
def mAug (i : Nat) (f : MO) (m : ME) : MS := fun E S => match E[i]? with
  | some (some x) => (m E S).to E fun y S1 => (f x y S1).to E fun z S2 => .nx (E.set i (some z)) S2
  | _ => .no
theorem qs_aug {i : Nat} {x : Str} {e : Expr} {m : ME} {op : Operator} {f : MO} {ti : TIp} {pos pos' : Pos} (hN : X.N.Nodup) (hi : X.N[i]? = some x) (hx : Loc X.env.scope x) (he : PE X e (tI C m W)) (ho : PIp X op ti) (hfo : OpF C f ti) (hf : X.fn x = true ∨ X.env.scope.names.lookup x = some .local := by first | exact .inl rfl | exact .inr rfl | assumption) :
    PS X (.AugAssign (.Name x pos') op e pos) (tS C (mAug i f m) W) :=
  ps_mono (ps_aug hN hi hx he ho hf) fun D σ H h => by
    obtain ⟨ρ, E, S, q, r, h⟩ := h
    unfold mAug at h
    cases e0 : E[i]? with
    | none => rw [e0] at h; exact h.elim
    | some o =>
      cases o with
      | none => rw [e0] at h; exact h.elim
      | some v0 =>
        rw [e0] at h
        obtain ⟨x0, g1, g2⟩ := q.at_ i v0 e0
        refine ⟨x0, g1, ρ, E, S, q, r, PR.mono (PF.to (rel := RV C) q r h) (fun y H1 ⟨ρ1, v, S1, e1, r1, x1, h1⟩ => ?_) fun _ _ _ z => z⟩
        exact hfo ρ1 S1 H1 v0 v x0 y _ _ r1 (g2.ext e1 r) x1 (PR.mono (PF.to (rel := RV C) (q.ext e1 r) r1 h1) (fun z H2 ⟨ρ2, w, S2, e2, r2, x2, h2⟩ => PF.nxt h2 (((q.ext e1 r).ext e2 r1).set i x2) r2) fun _ _ _ z => z)
theorem ip_of {op : Operator} {r : R2} (h : OpR X (inplaceOp op) r) : PIp X op r := fun pins s σ H x y v u Q I r1 r2 q => h pins s σ H x y v u Q I r1 r2 q
/-! ### while -/
def mWhile (t : MT) (b : MS) : Nat → MS
  | 0 => fun _ _ => .no
  | n + 1 => fun E S => (t E S).to E fun c S1 => bif c then (match b E S1 with
    | .nx E2 S2 => mWhile t b n E2 S2
    | .ct E2 S2 => mWhile t b n E2 S2
    | .bk E2 S2 => .nx E2 S2
    | .rt v S2 => .rt v S2
    | .ex e E2 S2 => .ex e E2 S2
    | .no => .no) else .nx E S1
theorem qs_while {c : Expr} {body : List Stmt} {t : MT} {b : MS} {pos : Pos} (n : Nat) (hp : PassesOwn (model X.prog X.w) X.A X.env X.xe) (hc : PT X c (tT C t W)) (hb : PSs X body (tS C b W)) : PS X (.While c body [] pos) (tS C (mWhile t b n) W) :=
  ps_mono (ps_while hp hc hb) fun D σ H h => by
    refine ⟨fun m σ H => ∃ ρ E S, RE C ρ H E σ ∧ Rel C ρ S H ∧ PF C (mWhile t b m E S) ρ S H D W, ⟨n, h⟩, ?_⟩
    intro m σ H h
    obtain ⟨ρ, E, S, q, r, h⟩ := h
    cases m with
    | zero => exact h.elim
    | succ m =>
      unfold mWhile at h
      refine ⟨ρ, E, S, q, r, PR.mono (PF.to (rel := relB) q r h) (fun x H1 ⟨ρ1, v, S1, e1, r1, x1, h1⟩ => ?_) fun _ _ _ z => z⟩
      cases x1
      cases x with
      | false =>
        rw [if_neg Bool.false_ne_true]
        exact PF.nxt h1 (q.ext e1 r) r1
      | true =>
        rw [if_pos rfl]
        refine ⟨fun σ' H' => ∃ ρ E S, RE C ρ H' E σ' ∧ Rel C ρ S H' ∧ PF C (mWhile t b m E S) ρ S H' D W, fun σ' H' z => ⟨m, Nat.lt_succ_self m, z⟩, ρ1, E, S1, q.ext e1 r, r1, ?_⟩
        dsimp only [cond_true] at h1
        cases e2 : b E S1 with
        | nx E2 S2 => rw [e2] at h1; exact fun ρ2 H2 σ2 e3 r2 q2 => ⟨ρ2, E2, S2, q2, r2, PF.ext h1 e3⟩
        | ct E2 S2 => rw [e2] at h1; exact fun ρ2 H2 σ2 e3 r2 q2 => ⟨ρ2, E2, S2, q2, r2, PF.ext h1 e3⟩
        | bk E2 S2 => rw [e2] at h1; exact h1
        | rt v S2 => rw [e2] at h1; exact h1
        | ex e E2 S2 => rw [e2] at h1; exact h1
        | no => rw [e2] at h1; exact h1
end
end FX

set_option Elab.async false
set_option linter.all false
set_option maxRecDepth 100000
set_option maxHeartbeats 2000000
set_option autoImplicit false
/-! FX7: what is walked; for; list comprehensions. -/
namespace FX
open PySem PySem.Spec PyProof.Rows L2
/-- what is walked, from where it stands on -/
inductive Wk where
  | items (xs : List IV)
  | cell (n i : Nat)
  | enumc (n i : Nat)
  | zipc (n m i : Nat)
def Wk.adv : Wk → Nat → Wk
  | .items xs, k => .items (xs.drop k)
  | .cell n i, k => .cell n (i + k)
  | .enumc n i, k => .enumc n (i + k)
  | .zipc n m i, k => .zipc n m (i + k)
def Wk.step (S : Sto) : Wk → Option (Option (IV × Wk))
  | .items [] => some none
  | .items (x :: r) => some (some (x, .items r))
  | .cell n i => (match S.get n with
    | some (.lst xs) => (match xs[i]? with
      | some x => some (some (x, .cell n (i + 1)))
      | none => some none)
    | none => none)
  | .enumc n i => (match S.get n with
    | some (.lst xs) => (match xs[i]? with
      | some x => some (some (.tup [.int (i : Nat), x], .enumc n (i + 1)))
      | none => some none)
    | none => none)
  | .zipc n m i => (match S.get n, S.get m with
    | some (.lst xs), some (.lst ys) => (match xs[i]?, ys[i]? with
      | some x, some y => some (some (.tup [x, y], .zipc n m (i + 1)))
      | _, _ => some none)
    | _, _ => none)
structure SimJ (C : Wd) (J : It) (k0 : Wk) (ρ0 : Map) (S0 : Sto) (H0 : Hp) : Prop where
  stop : ∀ i ρ S H, Ext ρ0 S0 H0 ρ S H → Rel C ρ S H → (k0.adv i).step S = some none → J.stop i H
  go : ∀ i ρ S H v k', Ext ρ0 S0 H0 ρ S H → Rel C ρ S H → (k0.adv i).step S = some (some (v, k')) → k' = k0.adv (i + 1) ∧ J.go i H ∧ ∀ x H', J.yld i H x H' → Ext ρ S H ρ S H' ∧ Rel C ρ S H' ∧ RV C ρ H' v x
abbrev MI := Env' → Sto → R Wk
def PK (C : Wd) (r : R Wk) (ρ : Map) (S : Sto) (H : Hp) (Q : It → Hp → Prop) (W : XK) : Prop := match r with
  | .ok k S' => ∀ ρ' H' J, Ext ρ S H ρ' S' H' → Rel C ρ' S' H' → SimJ C J k ρ' S' H' → Q J H'
  | .ex e S' => ∀ ρ' H' cls d, Ext ρ S H ρ' S' H' → Rel C ρ' S' H' → RX C ρ' H' e cls d → W cls d H'
  | .no => False
def tW (C : Wd) (m : MI) (W : WX) : TI := fun σ H Q => ∃ ρ E S, RE C ρ H E σ ∧ Rel C ρ S H ∧ PK C (m E S) ρ S H Q (fun c d H' => W c d σ H')
section
variable {X : Cx} {C : Wd} {W : WX}
theorem pi_mono {tg e : Expr} {t t' : TI} (h : PI X tg e t) (m : ∀ σ H Q, t' σ H Q → t σ H Q) : PI X tg e t' := ⟨fun pins s σ H Q I q => h.run pins s σ H Q I (m _ _ _ q)⟩
theorem PK.bind {α β : Type} {rel : Map → Hp → α → β → Prop} {r : R α} {k : α → Sto → R Wk} {ρ : Map} {S : Sto} {H : Hp} {Q : It → Hp → Prop} {W : XK}
    (h : PK C (r.bind k) ρ S H Q W) : PR C rel r ρ S H (fun x H1 => ∃ ρ1 v S1, Ext ρ S H ρ1 S1 H1 ∧ Rel C ρ1 S1 H1 ∧ rel ρ1 H1 v x ∧ PK C (k v S1) ρ1 S1 H1 Q W) W := by
  cases r with
  | ok v S1 =>
    intro ρ1 H1 x e1 r1 q1
    refine ⟨ρ1, v, S1, e1, r1, q1, ?_⟩
    have h : PK C (k v S1) ρ S H Q W := h
    revert h
    cases k v S1 with
    | ok w S2 => exact fun h ρ2 H2 y e2 r2 q2 => h ρ2 H2 y (e1.trans e2) r2 q2
    | ex e S2 => exact fun h ρ2 H2 c d e2 r2 q2 => h ρ2 H2 c d (e1.trans e2) r2 q2
    | no => exact fun h => h
  | ex e S1 => exact h
  | no => exact h
theorem PK.now {k : Wk} {S : Sto} {ρ : Map} {H : Hp} {Q : It → Hp → Prop} {W : XK} {J : It} (h : PK C (.ok k S) ρ S H Q W) (r : Rel C ρ S H) (q : SimJ C J k ρ S H) : Q J H := h ρ H J r.refl r q
mutual
theorem RV.heap {ρ : Map} {H H' : Hp} (key : ∀ {a : Addr} {xs : List V}, SqT C.K H a xs → SqT C.K H' a xs) (key2 : ∀ {a : Addr} {xs : List V}, SqF C.K H a xs → SqF C.K H' a xs) : ∀ {x : IV} {v : V}, RV C ρ H x v → RV C ρ H' x v
  | .non, _, h => rv_non.mpr (rv_non.mp h)
  | .bl _, _, h => rv_bl.mpr (rv_bl.mp h)
  | .int _, _, h => rv_int.mpr (rv_int.mp h)
  | .str _, _, h => rv_str.mpr (rv_str.mp h)
  | .glo _, _, h => rv_glo.mpr (rv_glo.mp h)
  | .ty _, _, h => rv_ty.mpr (rv_ty.mp h)
  | .ref n, _, h => rv_ref.mpr (rv_ref.mp h)
  | .tup xs, _, h => by
    obtain ⟨a, vs, e, t, q⟩ := rv_tup.mp h
    exact rv_tup.mpr ⟨a, vs, e, key t, RVs.heap key key2 q⟩
  | .frz xs, _, h => by
    obtain ⟨a, vs, e, t, q⟩ := rv_frz.mp h
    exact rv_frz.mpr ⟨a, vs, e, key2 t, RVs.heap key key2 q⟩
theorem RVs.heap {ρ : Map} {H H' : Hp} (key : ∀ {a : Addr} {xs : List V}, SqT C.K H a xs → SqT C.K H' a xs) (key2 : ∀ {a : Addr} {xs : List V}, SqF C.K H a xs → SqF C.K H' a xs) : ∀ {xs : List IV} {vs : List V}, RVs C ρ H xs vs → RVs C ρ H' xs vs
  | [], _, h => rvs_nil.mpr (rvs_nil.mp h)
  | x :: xs, _, h => by
    obtain ⟨v, q, e, h1, h2⟩ := rvs_cons.mp h
    exact rvs_cons.mpr ⟨v, q, e, RV.heap key key2 h1, RVs.heap key key2 h2⟩
end
/-! ### ranges -/
def rangeI (lo : Int) : Nat → List IV
  | 0 => []
  | n + 1 => .int lo :: rangeI (lo + 1) n
theorem rangeI_drop : ∀ (n i : Nat) (lo : Int), (rangeI lo n).drop i = rangeI (lo + i) (n - i)
  | n, 0, lo => by simp
  | 0, i + 1, lo => by simp [rangeI]
  | n + 1, i + 1, lo => by
    rw [rangeI, List.drop_succ_cons, rangeI_drop n i (lo + 1)]
    congr 1
    · omega
    · omega
theorem sim_range (lo : Int) (n : Nat) {ρ : Map} {S : Sto} {H : Hp} : SimJ C (Itr lo n) (.items (rangeI lo n)) ρ S H where
  stop := fun i ρ S H e r h => by
    show n ≤ i
    unfold Wk.adv at h
    dsimp only at h
    rw [rangeI_drop] at h
    by_cases z : n ≤ i
    · exact z
    · obtain ⟨m, hm⟩ : ∃ m, n - i = m + 1 := ⟨n - i - 1, by omega⟩
      rw [hm, rangeI] at h
      unfold Wk.step at h
      cases h
  go := fun i ρ S H v k' e r h => by
    unfold Wk.adv at h
    dsimp only at h
    rw [rangeI_drop] at h
    by_cases z : n ≤ i
    · rw [Nat.sub_eq_zero_of_le z, rangeI] at h
      unfold Wk.step at h
      cases h
    · obtain ⟨m, hm⟩ : ∃ m, n - i = m + 1 := ⟨n - i - 1, by omega⟩
      rw [hm, rangeI] at h
      unfold Wk.step at h
      cases h
      refine ⟨?_, Nat.lt_of_not_le z, ?_⟩
      · unfold Wk.adv
        dsimp only
        rw [rangeI_drop]
        congr 2
        · omega
        · omega
      · rintro x H' ⟨rfl, rfl⟩
        exact ⟨r.refl, r, rv_int.mpr rfl⟩
/-- lo, lo + c, .. -/
def rangeC (lo c : Int) : Nat → List IV
  | 0 => []
  | n + 1 => .int lo :: rangeC (lo + c) c n
theorem rangeC_drop : ∀ (n i : Nat) (lo c : Int), (rangeC lo c n).drop i = rangeC (lo + i * c) c (n - i)
  | n, 0, lo, c => by simp
  | 0, i + 1, lo, c => by simp [rangeC]
  | n + 1, i + 1, lo, c => by
    rw [rangeC, List.drop_succ_cons, rangeC_drop n i (lo + c) c]
    have e : lo + c + (i : Int) * c = lo + ((i + 1 : Nat) : Int) * c := by
      rw [Int.natCast_add, Int.add_mul]
      omega
    rw [e]
    congr 1
    omega
theorem sim_rangeC (lo c : Int) (n : Nat) {ρ : Map} {S : Sto} {H : Hp} : SimJ C (Itc lo c n) (.items (rangeC lo c n)) ρ S H where
  stop := fun i ρ S H e r h => by
    show n ≤ i
    unfold Wk.adv at h
    dsimp only at h
    rw [rangeC_drop] at h
    by_cases z : n ≤ i
    · exact z
    · obtain ⟨m, hm⟩ : ∃ m, n - i = m + 1 := ⟨n - i - 1, by omega⟩
      rw [hm, rangeC] at h
      unfold Wk.step at h
      cases h
  go := fun i ρ S H v k' e r h => by
    unfold Wk.adv at h
    dsimp only at h
    rw [rangeC_drop] at h
    by_cases z : n ≤ i
    · rw [Nat.sub_eq_zero_of_le z, rangeC] at h
      unfold Wk.step at h
      cases h
    · obtain ⟨m, hm⟩ : ∃ m, n - i = m + 1 := ⟨n - i - 1, by omega⟩
      rw [hm, rangeC] at h
      unfold Wk.step at h
      cases h
      refine ⟨?_, Nat.lt_of_not_le z, ?_⟩
      · unfold Wk.adv
        dsimp only
        rw [rangeC_drop]
        have e : lo + (i : Int) * c + c = lo + ((i + 1 : Nat) : Int) * c := by
          rw [Int.natCast_add, Int.add_mul]
          omega
        rw [← e]
        congr 2
        omega
      · rintro x H' ⟨rfl, rfl⟩
        exact ⟨r.refl, r, rv_int.mpr rfl⟩
def in62 (i : Int) : Bool := decide (-(2 ^ 62) ≤ i) && decide (i < 2 ^ 62)
theorem in62_ok {i : Int} (h : in62 i = true) : -(2 ^ 62) ≤ i ∧ i < 2 ^ 62 := by
  unfold in62 at h
  rw [Bool.and_eq_true] at h
  exact ⟨of_decide_eq_true h.1, of_decide_eq_true h.2⟩
def fRange : List IV → Sto → R Wk := fun as S => match as with
  | [.int j] => bif in62 j then .ok (.items (rangeI 0 j.toNat)) S else .no
  | [.int i, .int j] => bif (in62 i && in62 j) then .ok (.items (rangeI i (j - i).toNat)) S else .no
  | [.int i, .int j, .int c] => bif (in62 i && in62 j && decide (c = -1)) then .ok (.items (rangeC i (-1) (i - j).toNat)) S else .no
  | _ => .no
def mWk (f : List IV → Sto → R Wk) (ms : MA) : MI := fun E S => (ms E S).bind f
theorem qi_range1 {tg a : Expr} {ms : MA} {p pos : Pos} (hg : Gl X "range") (hm : X.mg "range" = none) (ha : PA X [a] (tA C ms W)) (hs : starEach [a] X.env = [(false, eval a X.env)] := by rfl) (hn : ∀ E S as S', ms E S = .ok as S' → as.length = 1) :
    PI X tg (.Call (.Name "range" p) [a] [] pos) (tW C (mWk fRange ms) W) :=
  pi_mono (pi_range1 hg hm ha hs) fun σ H Q h => by
    obtain ⟨ρ, E, S, q, r, h⟩ := h
    unfold mWk at h
    have hn1 := hn E S
    revert hn1
    cases e0 : ms E S with
    | no => intro _; rw [e0] at h; exact h.elim
    | ex x S' => intro _; refine ⟨ρ, E, S, q, r, ?_⟩; rw [e0] at h ⊢; exact h
    | ok as S' =>
      intro hn1
      have hl := hn1 as S' rfl
      refine ⟨ρ, E, S, q, r, ?_⟩
      rw [e0] at h ⊢
      intro ρ1 H1 x1 e1 r1 y1
      have h1 : PK C (fRange as S') ρ S H Q _ := h
      unfold fRange at h1
      split at h1
      · rename_i j
        obtain ⟨v, rfl, g⟩ := rvs_one y1
        have ev := rv_int.mp g
        subst ev
        cases z : in62 j with
        | false => rw [z] at h1; exact h1.elim
        | true =>
          rw [z] at h1
          obtain ⟨z1, z2⟩ := in62_ok z
          exact ⟨j, rfl, z1, z2, h1 ρ1 H1 _ e1 r1 (sim_range 0 _)⟩
      · simp at hl
      · simp at hl
      · exact h1.elim
theorem qi_range2 {tg a b : Expr} {ms : MA} {p pos : Pos} (hg : Gl X "range") (hm : X.mg "range" = none) (ha : PA X [a, b] (tA C ms W)) (hs : starEach [a, b] X.env = [(false, eval a X.env), (false, eval b X.env)] := by rfl) (hs2 : starEach [b] X.env = [(false, eval b X.env)] := by rfl) (hn : ∀ E S as S', ms E S = .ok as S' → as.length = 2) :
    PI X tg (.Call (.Name "range" p) [a, b] [] pos) (tW C (mWk fRange ms) W) :=
  pi_mono (pi_range2 hg hm ha hs hs2) fun σ H Q h => by
    obtain ⟨ρ, E, S, q, r, h⟩ := h
    unfold mWk at h
    have hn1 := hn E S
    revert hn1
    cases e0 : ms E S with
    | no => intro _; rw [e0] at h; exact h.elim
    | ex x S' => intro _; refine ⟨ρ, E, S, q, r, ?_⟩; rw [e0] at h ⊢; exact h
    | ok as S' =>
      intro hn1
      have hl := hn1 as S' rfl
      refine ⟨ρ, E, S, q, r, ?_⟩
      rw [e0] at h ⊢
      intro ρ1 H1 x1 e1 r1 y1
      have h1 : PK C (fRange as S') ρ S H Q _ := h
      unfold fRange at h1
      split at h1
      · simp at hl
      · rename_i i j
        obtain ⟨v, w, rfl, g1, g2⟩ := rvs_two y1
        have ev := rv_int.mp g1
        have ew := rv_int.mp g2
        subst ev ew
        cases z : (in62 i && in62 j) with
        | false => rw [z] at h1; exact h1.elim
        | true =>
          rw [z] at h1
          rw [Bool.and_eq_true] at z
          obtain ⟨z1, z2⟩ := in62_ok z.1
          obtain ⟨z3, z4⟩ := in62_ok z.2
          exact ⟨i, j, rfl, ⟨z1, z2, z3, z4⟩, h1 ρ1 H1 _ e1 r1 (sim_range i _)⟩
      · simp at hl
      · exact h1.elim
theorem qi_range3 {tg a b c : Expr} {ms : MA} {p pos : Pos} (hg : Gl X "range") (hm : X.mg "range" = none) (ha : PA X [a, b, c] (tA C ms W)) (hs : starEach [a, b, c] X.env = (false, eval a X.env) :: starEach [b, c] X.env := by rfl) (hpl : (backTo pos (starEach [b, c] X.env)).any (·.1) = false := by rfl) (hn : ∀ E S as S', ms E S = .ok as S' → as.length = 3) :
    PI X tg (.Call (.Name "range" p) [a, b, c] [] pos) (tW C (mWk fRange ms) W) :=
  pi_mono (pi_range3 hg hm ha hs hpl) fun σ H Q h => by
    obtain ⟨ρ, E, S, q, r, h⟩ := h
    unfold mWk at h
    have hn1 := hn E S
    revert hn1
    cases e0 : ms E S with
    | no => intro _; rw [e0] at h; exact h.elim
    | ex x S' => intro _; refine ⟨ρ, E, S, q, r, ?_⟩; rw [e0] at h ⊢; exact h
    | ok as S' =>
      intro hn1
      have hl := hn1 as S' rfl
      refine ⟨ρ, E, S, q, r, ?_⟩
      rw [e0] at h ⊢
      intro ρ1 H1 x1 e1 r1 y1
      have h1 : PK C (fRange as S') ρ S H Q _ := h
      unfold fRange at h1
      split at h1
      · simp at hl
      · simp at hl
      · rename_i i j c
        obtain ⟨v, w, u, rfl, g1, g2, g3⟩ := rvs_three y1
        have ev := rv_int.mp g1
        have ew := rv_int.mp g2
        have eu := rv_int.mp g3
        subst ev ew eu
        cases z : (in62 i && in62 j && decide (c = -1)) with
        | false => rw [z] at h1; exact h1.elim
        | true =>
          rw [z] at h1
          rw [Bool.and_eq_true, Bool.and_eq_true] at z
          obtain ⟨z1, z2⟩ := in62_ok z.1.1
          obtain ⟨z3, z4⟩ := in62_ok z.1.2
          have ec := of_decide_eq_true z.2
          subst ec
          exact ⟨i, j, -1, _, rfl, RgC.neg z1 z2 z3 z4, h1 ρ1 H1 _ e1 r1 (sim_rangeC i (-1) _)⟩
      · exact h1.elim
/-! ### lists and tuples -/
theorem sim_tup {ρ : Map} {S : Sto} {H : Hp} {a : Addr} {xs : List IV} {vs : List V} (r0 : Rel C ρ S H) (t : SqT C.K H a vs) (h : RVs C ρ H xs vs) : SimJ C (Itt C.K a) (.items xs) ρ S H where
  stop := fun i ρ' S' H' e r g => by
    refine ⟨vs, e.tup r0 t, ?_⟩
    rw [h.length]
    unfold Wk.adv at g
    dsimp only at g
    cases z : xs.drop i with
    | nil => exact List.drop_eq_nil_iff.mp z
    | cons x q => rw [z] at g; unfold Wk.step at g; cases g
  go := fun i ρ' S' H' v k' e r g => by
    unfold Wk.adv at g
    dsimp only at g
    cases z : xs.drop i with
    | nil => rw [z] at g; unfold Wk.step at g; cases g
    | cons x q =>
      rw [z] at g
      unfold Wk.step at g
      cases g
      have hx : xs[i]? = some v := by
        have := congrArg List.head? z
        rw [List.head?_drop] at this
        simpa using this
      obtain ⟨u, hu, ru⟩ := (RVs.ext e r0 _ _ h).get hx
      refine ⟨?_, ⟨vs, u, e.tup r0 t, hu⟩, ?_⟩
      · unfold Wk.adv
        dsimp only
        rw [← List.drop_drop, z]
        rfl
      · rintro x1 H1 ⟨rfl, hall⟩
        have := hall vs (e.tup r0 t)
        rw [hu] at this
        cases this
        exact ⟨r.refl, r, ru⟩
theorem sim_cell {ρ : Map} {S : Sto} {H : Hp} {n : Nat} {a : Addr} (ha : ρ n = some a) : SimJ C (Itl C.K a) (.cell n 0) ρ S H where
  stop := fun i ρ' S' H' e r g => by
    unfold Wk.adv at g
    unfold Wk.step at g
    dsimp only at g
    rw [Nat.zero_add] at g
    split at g
    · rename_i xs gx
      obtain ⟨b, ho, e1, e2, vs, rfl, e3⟩ := r.obj n _ gx
      rw [e.map n a ha] at e1
      cases e1
      split at g
      · cases g
      · rename_i z
        exact ⟨vs, SqL.of e2, by rw [e3.length]; exact List.getElem?_eq_none_iff.mp z⟩
    · cases g
  go := fun i ρ' S' H' v k' e r g => by
    unfold Wk.adv at g
    unfold Wk.step at g
    dsimp only at g
    rw [Nat.zero_add] at g
    split at g
    · rename_i xs gx
      obtain ⟨b, ho, e1, e2, vs, rfl, e3⟩ := r.obj n _ gx
      rw [e.map n a ha] at e1
      cases e1
      split at g
      · rename_i x z
        cases g
        obtain ⟨u, hu, ru⟩ := e3.get z
        refine ⟨by unfold Wk.adv; dsimp only; rw [Nat.zero_add], ⟨vs, u, SqL.of e2, hu⟩, ?_⟩
        rintro x1 H1 ⟨rfl, hall⟩
        have := hall vs (SqL.of e2)
        rw [hu] at this
        cases this
        exact ⟨r.refl, r, ru⟩
      · cases g
    · cases g
/-- a list or a tuple -/
def iSeq (K : PySem.W.Frag) (tl : TE) : TI := fun σ H R => tl σ H fun x H1 => ∃ a, x = .ref a ∧ (((∃ xs, SqL K H1 a xs) ∧ R (Itl K a) H1) ∨ ((∃ xs, SqT K H1 a xs) ∧ R (Itt K a) H1))
theorem pi_seq {tg l : Expr} {tl : TE} (hl : PE X l tl) : PI X tg l (iSeq X.K tl) := by
  refine ⟨fun pins s σ H R I h => ?_⟩
  refine thn (hl.run pins s σ H _ I h) fun v s1 ⟨x, H1, I1, r1, q1⟩ => ?_
  obtain ⟨a, e, ⟨⟨xs, hq⟩, q⟩ | ⟨⟨xs, hq⟩, q⟩⟩ := q1
  · subst e
    cases r1
    obtain ⟨its, rv, p, hz⟩ := I1.list hq
    refine wpAny_pyIter_list p.isList ?_
    refine ⟨s1.heap.objs.size, [s1.heap.objs.size], _, _, H1, rfl, I1.kept (t' := s1.toks) fun b o e => Heap.get?_push_of_some _ e, turn_list a _, ⟨_, Heap.get?_push_size _ rfl, rfl, rfl⟩, fun b hb => ?_, q⟩
    have e : b = s1.heap.objs.size := by simpa using hb
    subst e
    exact I1.fpOk (Nat.le_refl _) (I1.hok.fresh (Nat.le_refl _))
  · subst e
    cases r1
    obtain ⟨its, rv, p, hz⟩ := I1.tuple hq
    refine wpAny_pyIter_tuple (show s1.heap.IsTuple a its.toArray from p) ?_
    refine ⟨s1.heap.objs.size, [s1.heap.objs.size], _, _, H1, rfl, I1.kept (t' := s1.toks) fun b o e => Heap.get?_push_of_some _ e, turn_tuple a _, ⟨_, Heap.get?_push_size _ rfl, rfl, rfl⟩, fun b hb => ?_, q⟩
    have e : b = s1.heap.objs.size := by simpa using hb
    subst e
    exact I1.fpOk (Nat.le_refl _) (I1.hok.fresh (Nat.le_refl _))
def mSeqW (m : ME) : MI := fun E S => (m E S).bind fun v S1 => match v with
  | .tup xs => .ok (.items xs) S1
  | .ref n => (match S1.get n with
    | some (.lst _) => .ok (.cell n 0) S1
    | none => .no)
  | _ => .no
theorem qi_seq {tg l : Expr} {m : ME} (hK : X.K = C.K) (hl : PE X l (tI C m W)) : PI X tg l (tW C (mSeqW m) W) :=
  pi_mono (pi_seq hl) fun σ H Q h => by
    obtain ⟨ρ, E, S, q, r, h⟩ := h
    refine ⟨ρ, E, S, q, r, PR.mono (PK.bind (rel := RV C) h) (fun x H1 ⟨ρ1, v, S1, e1, r1, x1, h1⟩ => ?_) fun _ _ _ z => z⟩
    rw [hK]
    split at h1
    · obtain ⟨a, vs, rfl, t, w⟩ := rv_tup.mp x1
      exact ⟨a, rfl, .inr ⟨⟨vs, t⟩, PK.now h1 r1 (sim_tup r1 t w)⟩⟩
    · split at h1
      · rename_i g
        obtain ⟨a, vs, e2, rfl, t, w⟩ := cell_at r1 x1 g
        exact ⟨a, rfl, .inl ⟨⟨vs, SqL.of t⟩, PK.now h1 r1 (sim_cell e2)⟩⟩
      · exact h1.elim
    · exact h1.elim
/-! ### for -/
def mForGo (tg : Tg) (b : MS) : Nat → Wk → MS
  | 0, _ => fun _ _ => .no
  | n + 1, k => fun E S => match k.step S with
    | none => .no
    | some none => .nx E S
    | some (some (v, k')) => (match bindT tg v E with
      | none => .no
      | some E1 => match b E1 S with
        | .nx E2 S2 => mForGo tg b n k' E2 S2
        | .ct E2 S2 => mForGo tg b n k' E2 S2
        | .bk E2 S2 => .nx E2 S2
        | .rt v S2 => .rt v S2
        | .ex e E2 S2 => .ex e E2 S2
        | .no => .no)
def mFor (n : Nat) (mi : MI) (tg : Tg) (b : MS) : MS := fun E S => (mi E S).to E fun k S1 => mForGo tg b n k E S1
theorem PK.to {r : R Wk} {E : Env'} {k : Wk → Sto → Fl} {ρ : Map} {S : Sto} {H : Hp} {D : Ends} {σ : L2.St} (q : RE C ρ H E σ) (r0 : Rel C ρ S H)
    (h : PF C (r.to E k) ρ S H D W) : PK C r ρ S H (fun J H1 => ∃ ρ1 v S1, Ext ρ S H ρ1 S1 H1 ∧ Rel C ρ1 S1 H1 ∧ SimJ C J v ρ1 S1 H1 ∧ PF C (k v S1) ρ1 S1 H1 D W) (fun c d H' => W c d σ H') := by
  cases r with
  | ok v S1 => exact fun ρ1 H1 x e1 r1 q1 => ⟨ρ1, v, S1, e1, r1, q1, PF.ext h e1⟩
  | ex e S1 => exact fun ρ1 H1 c d e1 r1 q1 => h ρ1 H1 σ c d e1 r1 (q.ext e1 r0) q1
  | no => exact h
theorem PK.mono {r : R Wk} {ρ : Map} {S : Sto} {H : Hp} {Q Q' : It → Hp → Prop} {W W' : XK} (h : PK C r ρ S H Q W) (hq : ∀ x H, Q x H → Q' x H) (hw : ∀ c d H, W c d H → W' c d H) : PK C r ρ S H Q' W' := by
  cases r with
  | ok v S' => exact fun ρ2 H2 y e2 r2 q2 => hq _ _ (h ρ2 H2 y e2 r2 q2)
  | ex e S2 => exact fun ρ2 H2 c d e2 r2 q2 => hw _ _ _ (h ρ2 H2 c d e2 r2 q2)
  | no => exact h
theorem qs_for {tg iter : Expr} {body : List Stmt} {mi : MI} {g : Tg} {b : MS} {pos : Pos} (n : Nat) (hp : PassesOwn (model X.prog X.w) X.A X.env X.xe) (hc : X.calm = true) (hi : PI X tg iter (tW C mi W)) (hg : PG X tg (gI C g)) (hb : PSs X body (tS C b W))
    (hs : ∀ x, foldedSetIterable iter X.env x = pure x := by intro _; rfl) : PS X (.For tg iter body [] pos) (tS C (mFor n mi g b) W) :=
  ps_mono (ps_for hp hc hi hg hb hs) fun D σ H h => by
    obtain ⟨ρ, E, S, q, r, h⟩ := h
    refine ⟨ρ, E, S, q, r, PK.mono (PK.to q r h) (fun J H1 ⟨ρ1, k0, S1, e1, r1, sim, h1⟩ => ?_) fun _ _ _ z => z⟩
    refine ⟨fun i m σ H => ∃ ρ E S, RE C ρ H E σ ∧ Rel C ρ S H ∧ Ext ρ1 S1 H1 ρ S H ∧ PF C (mForGo g b m (k0.adv i) E S) ρ S H D W, ⟨n, ρ1, E, S1, q.ext e1 r, r1, r1.refl, ?_⟩, ?_⟩
    · have : k0.adv 0 = k0 := by cases k0 <;> simp [Wk.adv]
      rw [this]
      exact h1
    · intro i m σ H h
      obtain ⟨ρ, E, S, q, r, e0, h⟩ := h
      cases m with
      | zero => exact h.elim
      | succ m =>
        unfold mForGo at h
        cases es : (k0.adv i).step S with
        | none => rw [es] at h; exact h.elim
        | some o =>
          cases o with
          | none =>
            rw [es] at h
            exact .inl ⟨sim.stop i ρ S H e0 r es, PF.nxt h q r⟩
          | some p =>
            obtain ⟨v, k'⟩ := p
            rw [es] at h
            dsimp only at h
            obtain ⟨ek, hgo, hyld⟩ := sim.go i ρ S H v k' e0 r es
            subst ek
            cases eb : bindT g v E with
            | none => rw [eb] at h; exact h.elim
            | some E1 =>
              rw [eb] at h
              dsimp only at h
              refine .inr ⟨hgo, fun σ' H' => ∃ ρ E S, RE C ρ H' E σ' ∧ Rel C ρ S H' ∧ Ext ρ1 S1 H1 ρ S H' ∧ PF C (mForGo g b m (k0.adv (i + 1)) E S) ρ S H' D W, fun σ' H' z => ⟨m, Nat.lt_succ_self m, z⟩, fun x H' hy => ?_⟩
              obtain ⟨e2, r2, x2⟩ := hyld x H' hy
              refine ⟨ρ, E, S, v, E1, q.ext e2 r, r2, x2, eb, fun σ2 q2 _ => ⟨ρ, E1, S, q2, r2, ?_⟩⟩
              have h := PF.ext h e2
              have e3 := e0.trans e2
              cases e4 : b E1 S with
              | nx E2 S2 => rw [e4] at h; exact fun ρ2 H2 σ3 e5 r5 q5 => ⟨ρ2, E2, S2, q5, r5, e3.trans e5, PF.ext h e5⟩
              | ct E2 S2 => rw [e4] at h; exact fun ρ2 H2 σ3 e5 r5 q5 => ⟨ρ2, E2, S2, q5, r5, e3.trans e5, PF.ext h e5⟩
              | bk E2 S2 => rw [e4] at h; exact h
              | rt v S2 => rw [e4] at h; exact h
              | ex e E2 S2 => rw [e4] at h; exact h
              | no => rw [e4] at h; exact h
/-! ### list comprehensions -/
def wipeE (E : Env') : List Nat → Env'
  | [] => E
  | v :: vs => (wipeE E vs).set v none
theorem RE.none {ρ : Map} {H : Hp} {E : Env'} {σ : L2.St} (q : RE C ρ H E σ) (i : Nat) : RE C ρ H (E.set i none) (σ.set i none) := by
  refine ⟨by simp [q.len], fun j y e => ?_⟩
  by_cases hj : j = i
  · subst hj
    have hl : j < E.length := by
      have := (List.getElem?_eq_some_iff.mp e).1
      simpa using this
    rw [List.getElem?_set_self hl] at e
    cases e
  · rw [List.getElem?_set_ne (Ne.symm hj)] at e
    obtain ⟨u, h1, h2⟩ := q.at_ j y e
    exact ⟨u, by rw [List.getElem?_set_ne (Ne.symm hj)]; exact h1, h2⟩
theorem RE.wipe {ρ : Map} {H : Hp} {E : Env'} {σ : L2.St} (q : RE C ρ H E σ) : ∀ vs : List Nat, RE C ρ H (wipeE E vs) (L2.wipe σ vs)
  | [] => q
  | v :: vs => (RE.wipe q vs).none v
theorem wipe_get (σ : L2.St) : ∀ (vs : List Nat) (j : Nat), (L2.wipe σ vs)[j]? = if j ∈ vs then (if j < σ.length then some none else none) else σ[j]?
  | [], j => by simp [L2.wipe]
  | v :: vs, j => by
    show ((L2.wipe σ vs).set v none)[j]? = _
    by_cases hj : j = v
    · subst hj
      by_cases hl : j < σ.length
      · rw [List.getElem?_set_self (by rw [wipe_length]; exact hl)]
        simp [hl]
      · rw [List.getElem?_eq_none_iff.mpr (by rw [List.length_set, wipe_length]; omega)]
        simp [hl]
    · rw [List.getElem?_set_ne (Ne.symm hj), wipe_get σ vs j]
      simp [hj]
theorem wipe_only {σ σ' : L2.St} {vs l : List Nat} (h : OnlyAt (L2.wipe σ vs) σ' l) (hl : ∀ i ∈ l, i ∈ vs) : L2.wipe σ' vs = L2.wipe σ vs := by
  apply List.ext_getElem?
  intro j
  have h1 := h.1
  rw [wipe_length] at h1
  rw [wipe_get, wipe_get, h1]
  by_cases hj : j ∈ vs
  · rw [if_pos hj, if_pos hj]
  · rw [if_neg hj, if_neg hj, h.2 j (fun z => hj (hl j z)), wipe_get, if_neg hj]
def mLcGo (tg : Tg) (t : MT) (e : ME) : Nat → Wk → List IV → Env' → Sto → R (List IV)
  | 0, _, _, _, _ => .no
  | n + 1, k, acc, E, S => match k.step S with
    | none => .no
    | some none => .ok acc.reverse S
    | some (some (v, k')) => (match bindT tg v E with
      | none => .no
      | some E1 => match t E1 S with
        | .ok true S1 => (match e E1 S1 with
          | .ok y S2 => mLcGo tg t e n k' (y :: acc) E S2
          | _ => .no)
        | .ok false S1 => mLcGo tg t e n k' acc E S1
        | _ => .no)
def mLc (n : Nat) (mi : MI) (tg : Tg) (t : MT) (e : ME) (vs : List Nat) : ME := fun E S => (mi E S).bind fun k S1 => (mLcGo tg t e n k [] (wipeE E vs) S1).bind fun xs S2 => .ok (.ref S2.top) (S2.new (.lst xs))
def mYes : MT := fun _ S => .ok true S
/-- a tracked list that no cell stands for becomes one -/
theorem adopt {ρ1 ρ2 : Map} {S1 S2 : Sto} {H1 H2 : Hp} {D : Addr} {xs : List IV} {vs : List V} (hD : H1 D = none) (e : Ext ρ1 S1 H1 ρ2 S2 H2) (r : Rel C ρ2 S2 H2) (h : H2 D = some (.lst vs)) (hv : RVs C ρ2 H2 xs vs) (hn : ∀ i, ρ2 i ≠ some D) :
    Ext ρ1 S1 H1 (ρ2.new S2.top D) (S2.new (.lst xs)) H2 ∧ Rel C (ρ2.new S2.top D) (S2.new (.lst xs)) H2 ∧ RV C (ρ2.new S2.top D) H2 (.ref S2.top) (.ref D) := by
  have lt : ∀ i a, ρ2 i = some a → i < S2.top := fun i a h => (r.live i a h).1
  have at_ : ∀ i, i ≠ S2.top → ρ2.new S2.top D i = ρ2 i := fun i hi => if_neg hi
  have new_ : ρ2.new S2.top D S2.top = some D := if_pos rfl
  have e2 : Ext ρ2 S2 H2 (ρ2.new S2.top D) S2 H2 → True := fun _ => trivial
  have mono : ∀ (x : List IV) (v : List V), RVs C ρ2 H2 x v → RVs C (ρ2.new S2.top D) H2 x v := by
    have key : ∀ i a, ρ2 i = some a → ρ2.new S2.top D i = some a := fun i a h => by rw [at_ i (Nat.ne_of_lt (lt i a h))]; exact h
    intro x v h
    exact RVs.map key h
  refine ⟨⟨fun i a h => ?_, fun i a h hl => ?_, fun i a h hl => ?_, ?_, fun b o hb hb2 => e.frame b o hb hb2, e.there, fun i hl hg => ?_⟩, ⟨fun i o g => ?_, fun i j a hi hj => ?_, fun i a ha => ?_⟩, rv_ref.mpr ⟨D, new_, rfl⟩⟩
  · have h2 := e.map i a h
    rw [at_ i (Nat.ne_of_lt (lt i a h2))]
    exact h2
  · have hne : i ≠ S2.top := Nat.ne_of_lt (Nat.lt_of_lt_of_le hl e.top)
    rw [at_ i hne] at h
    exact e.old i a h hl
  · by_cases hi : i = S2.top
    · rw [hi, new_] at h
      cases h
      exact hD
    · rw [at_ i hi] at h
      exact e.fresh i a h hl
  · obtain ⟨k, h1, h2⟩ := e.grow
    exact ⟨k + 1, by show S2.top + 1 = _; omega, by show (IO.lst xs :: S2.cells).length = _; rw [List.length_cons]; omega⟩
  · have hne : i ≠ S2.top := Nat.ne_of_lt (Nat.lt_of_lt_of_le hl e.top)
    rw [get_new_ne hne] at hg
    exact e.dom i hl hg
  · by_cases hi : i = S2.top
    · rw [hi, get_new] at g
      cases g
      exact ⟨D, _, by rw [hi]; exact new_, h, vs, rfl, mono _ _ hv⟩
    · rw [get_new_ne hi] at g
      obtain ⟨a, ho, f1, f2, f3⟩ := r.obj i o g
      refine ⟨a, ho, by rw [at_ i hi]; exact f1, f2, ?_⟩
      cases o with
      | lst ys =>
        obtain ⟨us, rfl, f4⟩ := f3
        exact ⟨us, rfl, mono _ _ f4⟩
  · by_cases h1 : i = S2.top <;> by_cases h2 : j = S2.top
    · rw [h1, h2]
    · rw [h1, new_] at hi
      rw [at_ j h2] at hj
      cases hi
      exact absurd hj (hn j)
    · rw [h2, new_] at hj
      rw [at_ i h1] at hi
      cases hj
      exact absurd hi (hn i)
    · rw [at_ i h1] at hi
      rw [at_ j h2] at hj
      exact r.inj i j a hi hj
  · by_cases hi : i = S2.top
    · rw [hi, new_] at ha
      cases ha
      exact ⟨by rw [hi]; exact Nat.lt_succ_self _, _, h, rfl⟩
    · rw [at_ i hi] at ha
      obtain ⟨h1, ho, h2, h3⟩ := r.live i a ha
      exact ⟨Nat.lt_succ_of_lt h1, ho, h2, h3⟩
end
end FX

set_option Elab.async false
set_option linter.all false
set_option maxRecDepth 100000
set_option maxHeartbeats 2000000
set_option autoImplicit false
/-! FX8: list comprehensions; zip; a def's body. -/
namespace FX
open PySem PySem.Spec PyProof.Rows L2
/-- no exception leaves -/
abbrev W0 : WX := fun _ _ _ _ => False
section
variable {X : Cx} {C : Wd} {W : WX}
/-- the reading of a comprehension's turns -/
theorem lc_turns {n : Nat} (hn : n ≤ 16777216) {g : Tg} {t : MT} {e : ME} {vs : List Nat} (hv : ∀ i ∈ g.slots, i ∈ vs) {σ : L2.St} {E : Env'} {J : It} {k0 : Wk} {ρ1 : Map} {S1 : Sto} {H1 : Hp} {Q : VK} {W : XK} (q : RE C ρ1 H1 E σ) (r1 : Rel C ρ1 S1 H1) (sim : SimJ C J k0 ρ1 S1 H1)
    (h : PR C (RV C) ((mLcGo g t e n k0 [] (wipeE E vs) S1).bind fun xs S2 => .ok (.ref S2.top) (S2.new (.lst xs))) ρ1 S1 H1 Q W) (D : Addr) (hD : H1 D = none) :
    ∃ Wv : Nat → Nat → Hp → Prop, (∃ m, Wv 0 m (upd H1 D (.lst []))) ∧ ∀ i m H, Wv i m H →
      (J.stop i H ∧ Q (.ref D) H) ∨ (J.go i H ∧ ∃ Nx : Hp → Prop, (∀ H', Nx H' → ∃ m', m' < m ∧ Wv (i + 1) m' H') ∧ ∀ x H', J.yld i H x H' → gI C g x (L2.wipe σ vs) H' fun σ2 H2 => L2.wipe σ2 vs = L2.wipe σ vs ∧ tT C t W0 σ2 H2 fun b H3 =>
        if b = true then tI C e W0 σ2 H3 fun y H4 => ∃ acc, H4 D = some (.lst acc) ∧ acc.length < sizeLine ∧ Nx (upd H4 D (.lst (acc ++ [y]))) else Nx H3) := by
  -- what the whole comes to
  let Fin : R (List IV) → Prop := fun r => match r with
    | .ok xs S2 => ∀ ρ2 H2 us, Ext ρ1 S1 H1 ρ2 S2 H2 → Rel C ρ2 S2 H2 → H2 D = some (.lst us) → RVs C ρ2 H2 xs us → (∀ i, ρ2 i ≠ some D) → Q (.ref D) H2
    | _ => False
  have hfin : ∀ r : R (List IV), (∀ ex S2, r = .ex ex S2 → False) → PR C (RV C) (r.bind fun xs S2 => .ok (.ref S2.top) (S2.new (.lst xs))) ρ1 S1 H1 Q W → Fin r := by
    intro r hne hr
    cases r with
    | no => exact hr
    | ex x S2 => exact (hne x S2 rfl).elim
    | ok xs S2 =>
      intro ρ2 H2 us e2 r2 hd hu hno
      obtain ⟨g1, g2, g3⟩ := adopt hD e2 r2 hd hu hno
      exact hr _ _ _ g1 g2 g3
  have noex : ∀ (n : Nat) (k : Wk) (acc : List IV) (E : Env') (S : Sto) ex S2, mLcGo g t e n k acc E S = .ex ex S2 → False := by
    intro n
    induction n with
    | zero => intro k acc E S ex S2 h; unfold mLcGo at h; cases h
    | succ n ih =>
      intro k acc E S ex S2 h
      unfold mLcGo at h
      split at h
      · cases h
      · cases h
      · split at h
        · cases h
        · split at h
          · split at h
            · exact ih _ _ _ _ _ _ h
            · cases h
          · exact ih _ _ _ _ _ _ h
          · cases h
  have h0 : Fin (mLcGo g t e n k0 [] (wipeE E vs) S1) := hfin _ (noex _ _ _ _ _) h
  have noD : ∀ i, ρ1 i ≠ some D := fun i z => by
    obtain ⟨_, ho, h2, _⟩ := r1.live i D z
    rw [hD] at h2
    cases h2
  have side : ∀ {ρ S H} (o : HO), Ext ρ1 S1 H1 ρ S H → Ext ρ1 S1 H1 ρ S (upd H D o) := fun {ρ S H} o e0 =>
    ⟨e0.map, e0.old, e0.fresh, e0.grow, fun b ob hb hb2 => by rw [upd_ne (ne_of_none hb hD)]; exact e0.frame b ob hb hb2, fun b hb => by
      by_cases z : b = D
      · rw [z]; exact hD
      · rw [upd_ne z] at hb; exact e0.there b hb, e0.dom⟩
  -- a state beside D's list
  have beside : ∀ {ρ S H} (us : List V), Rel C ρ S H → (H D = none ∨ ∃ us0, H D = some (.lst us0)) → (∀ i, ρ i ≠ some D) → Rel C ρ S (upd H D (.lst us)) ∧ ∀ xs vs, RVs C ρ H xs vs → RVs C ρ (upd H D (.lst us)) xs vs := by
    intro ρ S H us r hd hno
    have tupK : ∀ {a : Addr} {xs : List V}, SqT C.K H a xs → SqT C.K (upd H D (.lst us)) a xs := by
      intro a xs t
      have nt : ∀ o, H a = some o → isCell o = false → a ≠ D := fun o ho hc z => by
        rw [z] at ho
        rcases hd with z1 | ⟨u0, z1⟩
        · rw [z1] at ho; cases ho
        · rw [z1] at ho; cases ho; cases hc
      rcases t with (t | ⟨o, t⟩) | t
      · exact .inl (.inl (by rw [upd_ne (nt _ t rfl)]; exact t))
      · exact .inl (.inr ⟨o, by rw [upd_ne (nt _ t rfl)]; exact t⟩)
      · exact .inr t
    have frzK : ∀ {a : Addr} {xs : List V}, SqF C.K H a xs → SqF C.K (upd H D (.lst us)) a xs := by
      intro a xs t
      rcases t with ⟨o, t⟩ | t
      · refine .inl ⟨o, ?_⟩
        rw [upd_ne]
        · exact t
        · intro z
          rw [z] at t
          rcases hd with z1 | ⟨u0, z1⟩ <;> rw [z1] at t <;> cases t
      · exact .inr t
    have mono : ∀ xs vs, RVs C ρ H xs vs → RVs C ρ (upd H D (.lst us)) xs vs := fun xs vs => RVs.heap tupK frzK
    refine ⟨⟨fun i o g => ?_, r.inj, fun i a ha => ?_⟩, mono⟩
    · obtain ⟨a, ho, f1, f2, f3⟩ := r.obj i o g
      refine ⟨a, ho, f1, by rw [upd_ne (fun z => hno i (by rw [← z]; exact f1))]; exact f2, ?_⟩
      cases o with
      | lst ys =>
        obtain ⟨ws, rfl, f4⟩ := f3
        exact ⟨ws, rfl, mono _ _ f4⟩
    · obtain ⟨g1, ho, g2, g3⟩ := r.live i a ha
      exact ⟨g1, ho, by rw [upd_ne (fun z => hno i (by rw [← z]; exact ha))]; exact g2, g3⟩
  refine ⟨fun i m H => ∃ ρ S acc us, Ext ρ1 S1 H1 ρ S H ∧ Rel C ρ S H ∧ RE C ρ H (wipeE E vs) (L2.wipe σ vs) ∧ H D = some (.lst us) ∧ RVs C ρ H acc.reverse us ∧ (∀ i, ρ i ≠ some D) ∧ acc.length + m ≤ n ∧ Fin (mLcGo g t e m (k0.adv i) acc (wipeE E vs) S), ⟨n, ρ1, S1, [], [], ?_⟩, ?_⟩
  · obtain ⟨b1, b2⟩ := beside [] r1 (.inl hD) noD
    have k0e : k0.adv 0 = k0 := by cases k0 <;> simp [Wk.adv]
    refine ⟨side _ r1.refl, b1, ?_, upd_same, rvs_nil.mpr rfl, noD, by simp, by rw [k0e]; exact h0⟩
    exact (q.ext (side _ r1.refl) r1).wipe vs
  · intro i m H h
    obtain ⟨ρ, S, acc, us, e0, r, qe, hd, hu, hno, hlen, hF⟩ := h
    cases m with
    | zero => exact hF.elim
    | succ m =>
      unfold mLcGo at hF
      cases es : (k0.adv i).step S with
      | none => rw [es] at hF; exact hF.elim
      | some o =>
        cases o with
        | none =>
          rw [es] at hF
          exact .inl ⟨sim.stop i ρ S H e0 r es, hF ρ H us e0 r hd hu hno⟩
        | some p =>
          obtain ⟨v, k'⟩ := p
          rw [es] at hF
          dsimp only at hF
          obtain ⟨ek, hgo, hyld⟩ := sim.go i ρ S H v k' e0 r es
          subst ek
          cases eb : bindT g v (wipeE E vs) with
          | none => rw [eb] at hF; exact hF.elim
          | some E1 =>
            rw [eb] at hF
            dsimp only at hF
            refine .inr ⟨hgo, fun H' => ∃ ρ S acc us, Ext ρ1 S1 H1 ρ S H' ∧ Rel C ρ S H' ∧ RE C ρ H' (wipeE E vs) (L2.wipe σ vs) ∧ H' D = some (.lst us) ∧ RVs C ρ H' acc.reverse us ∧ (∀ i, ρ i ≠ some D) ∧ acc.length + m ≤ n ∧ Fin (mLcGo g t e m (k0.adv (i + 1)) acc (wipeE E vs) S),
              fun H' z => ⟨m, Nat.lt_succ_self m, z⟩, fun x H' hy => ?_⟩
            obtain ⟨e2, r2, x2⟩ := hyld x H' hy
            refine ⟨ρ, wipeE E vs, S, v, E1, qe.ext e2 r, r2, x2, eb, fun σ2 q2 o2 => ⟨wipe_only o2 hv, ?_⟩⟩
            have D2 : H' D = some (.lst us) := e2.frame D _ hd fun i _ => hno i
            have U2 := RVs.ext e2 r _ _ hu
            have E02 := e0.trans e2
            have Q2 := qe.ext e2 r
            -- the test
            cases et : t E1 S with
            | no => rw [et] at hF; exact hF.elim
            | ex x S2 => rw [et] at hF; exact hF.elim
            | ok c S2 =>
              refine ⟨ρ, E1, S, q2, r2, ?_⟩
              rw [et]
              rw [et] at hF
              intro ρ3 H3 c' e3 r3 hc
              cases hc
              have no3 : ∀ i, ρ3 i ≠ some D := fun i z => by
                by_cases hl : i < S.top
                · exact hno i (e3.old i D z hl)
                · have := e3.fresh i D z (Nat.le_of_not_lt hl)
                  rw [D2] at this
                  cases this
              have D3 : H3 D = some (.lst us) := e3.frame D _ D2 fun i _ => hno i
              have U3 := RVs.ext e3 r2 _ _ U2
              have E03 := E02.trans e3
              have Q3 := Q2.ext e3 r2
              cases c with
              | false =>
                rw [if_neg Bool.false_ne_true]
                exact ⟨ρ3, S2, acc, us, E03, r3, Q3, D3, U3, no3, by omega, hF⟩
              | true =>
                rw [if_pos rfl]
                dsimp only at hF
                cases ee : e E1 S2 with
                | no => rw [ee] at hF; exact hF.elim
                | ex x S2 => rw [ee] at hF; exact hF.elim
                | ok y S3 =>
                  rw [ee] at hF
                  refine ⟨ρ3, E1, S2, q2.ext e3 r2, r3, ?_⟩
                  rw [ee]
                  intro ρ4 H4 y' e4 r4 hy4
                  have no4 : ∀ i, ρ4 i ≠ some D := fun i z => by
                    by_cases hl : i < S2.top
                    · exact no3 i (e4.old i D z hl)
                    · have := e4.fresh i D z (Nat.le_of_not_lt hl)
                      rw [D3] at this
                      cases this
                  have D4 : H4 D = some (.lst us) := e4.frame D _ D3 fun i _ => no3 i
                  have U4 := RVs.ext e4 r3 _ _ U3
                  obtain ⟨b1, b2⟩ := beside (us ++ [y']) r4 (.inr ⟨_, D4⟩) no4
                  refine ⟨us, D4, ?_, ρ4, S3, y :: acc, us ++ [y'], side _ (E03.trans e4), b1, ?_, upd_same, ?_, no4, ?_, hF⟩
                  · rw [hu.length, List.length_reverse, sizeLine_eq]
                    omega
                  · have Q4 := Q3.ext e4 r3
                    refine ⟨Q4.len, fun j z hz => ?_⟩
                    obtain ⟨w, w1, w2⟩ := Q4.at_ j z hz
                    obtain ⟨w3, w4, w5, w6, _⟩ := rvs_cons.mp (b2 [z] [w] (rvs_cons.mpr ⟨w, [], rfl, w2, rvs_nil.mpr rfl⟩))
                    cases w5
                    exact ⟨w, w1, w6⟩
                  · rw [List.reverse_cons]
                    exact b2 _ _ (U4.append (rvs_cons.mpr ⟨y', [], rfl, hy4, rvs_nil.mpr rfl⟩))
                  · rw [List.length_cons]
                    omega
theorem lc_mono {n : Nat} (hn : n ≤ 16777216) {mi : MI} {g : Tg} {t : MT} {e : ME} {vs : List Nat} (hv : ∀ i ∈ g.slots, i ∈ vs) {σ : L2.St} {H : Hp} {Q : VK} (h : tI C (mLc n mi g t e vs) W σ H Q) : tLc (tW C mi W) (gI C g) (tT C t W0) (tI C e W0) vs σ H Q := by
  obtain ⟨ρ, E, S, q, r, h⟩ := h
  have key : PK C (mi E S) ρ S H (fun J H1 => ∀ D, H1 D = none → ∃ Wv : Nat → Nat → Hp → Prop, (∃ m, Wv 0 m (upd H1 D (.lst []))) ∧ ∀ i m H, Wv i m H →
      (J.stop i H ∧ Q (.ref D) H) ∨ (J.go i H ∧ ∃ Nx : Hp → Prop, (∀ H', Nx H' → ∃ m', m' < m ∧ Wv (i + 1) m' H') ∧ ∀ x H', J.yld i H x H' → gI C g x (L2.wipe σ vs) H' fun σ2 H2 => L2.wipe σ2 vs = L2.wipe σ vs ∧ tT C t W0 σ2 H2 fun b H3 =>
        if b = true then tI C e W0 σ2 H3 fun y H4 => ∃ acc, H4 D = some (.lst acc) ∧ acc.length < sizeLine ∧ Nx (upd H4 D (.lst (acc ++ [y]))) else Nx H3)) (fun c d H' => W c d σ H') := by
    unfold mLc at h
    cases ek : mi E S with
    | no => rw [ek] at h; exact h
    | ex x S1 => rw [ek] at h; exact h
    | ok k S1 =>
      rw [ek] at h
      intro ρ1 H1 J e1 r1 sim D hD
      have h1 : PR C (RV C) ((mLcGo g t e n k [] (wipeE E vs) S1).bind fun xs S2 => R.ok (.ref S2.top) (S2.new (.lst xs))) ρ S H Q _ := h
      exact lc_turns hn hv (q.ext e1 r) r1 sim (h1.ext e1) D hD
  exact ⟨ρ, E, S, q, r, key⟩
theorem qe_lc {elt tg iter : Expr} {ifs : List Expr} {scope : Scope} {own : List (Str × Nat)} {pos : Pos} {mi : MI} {g : Tg} {t : MT} {e : ME} (n : Nat) (hn : n ≤ 16777216) (hc : X.calm = true) (hN : X.N.Nodup) (hi : PI X tg iter (tW C mi W)) (ok : BlkOk X.N X.env.scope scope own) (hv : ∀ i ∈ g.slots, i ∈ own.map (·.2))
    (hg : ∀ (s : Shared) (H : Hp) (D : Addr) (cl : List (Str × Addr)) (fp : List Addr), PG (X.blk s H scope (compEnvC scope cl D X.env) fp) tg (gI C g)) (ht : ∀ (s : Shared) (H : Hp) (D : Addr) (cl : List (Str × Addr)) (fp : List Addr), PTs (X.blk s H scope (compEnvC scope cl D X.env) fp) ifs (tT C t W0))
    (he : ∀ (s : Shared) (H : Hp) (D : Addr) (cl : List (Str × Addr)) (fp : List Addr), PE (X.blk s H scope (compEnvC scope cl D X.env) fp) elt (tI C e W0)) (hs : ∀ x, foldedSetIterable iter X.env x = pure x := by intro _; rfl) :
    PE X (.ListComp elt [⟨tg, iter, ifs, 0⟩] scope pos) (tI C (mLc n mi g t e (own.map (·.2))) W) :=
  pe_mono (pe_lc hc hN hi ok hg ht he hs) fun _ _ _ h => lc_mono hn hv h
theorem qs_setLc {i : Nat} {y : Str} {py : Pos} {elt tg iter : Expr} {ifs : List Expr} {scope : Scope} {own : List (Str × Nat)} {pos spos : Pos} {mi : MI} {g : Tg} {t : MT} {e : ME} (n : Nat) (hn : n ≤ 16777216) (hc : X.calm = true) (hN : X.N.Nodup) (hy : X.N[i]? = some y) (hyl : X.env.scope.names.lookup y = some .local)
    (hsw : swapsWith (.ListComp elt [⟨tg, iter, ifs, 0⟩] scope pos) (some (.Name y py)) spos.line X.env = pure true) (hi : PI X tg iter (tW C mi W)) (ok : BlkOk X.N X.env.scope scope own) (hv : ∀ i ∈ g.slots, i ∈ own.map (·.2))
    (hg : ∀ (s : Shared) (H : Hp) (D : Addr) (cl : List (Str × Addr)) (fp : List Addr), PG (X.blk s H scope (compEnvC scope cl D X.env) fp) tg (gI C g)) (ht : ∀ (s : Shared) (H : Hp) (D : Addr) (cl : List (Str × Addr)) (fp : List Addr), PTs (X.blk s H scope (compEnvC scope cl D X.env) fp) ifs (tT C t W0))
    (he : ∀ (s : Shared) (H : Hp) (D : Addr) (cl : List (Str × Addr)) (fp : List Addr), PE (X.blk s H scope (compEnvC scope cl D X.env) fp) elt (tI C e W0)) (hs : ∀ x, foldedSetIterable iter X.env x = pure x := by intro _; rfl) :
    PS X (.Assign [.Name y py] (.ListComp elt [⟨tg, iter, ifs, 0⟩] scope pos) spos) (tS C (mSet i (mLc n mi g t e (own.map (·.2)))) W) :=
  ps_mono (ps_setLc hc hN hy hyl hsw hi ok hg ht he hs) fun D σ H h => by
    obtain ⟨ρ, E, S, q, r, h⟩ := h
    exact lc_mono hn hv ⟨ρ, E, S, q, r, PR.mono (PF.to (rel := RV C) q r h) (fun x H1 ⟨ρ1, v, S1, e1, r1, x1, h1⟩ => PF.nxt h1 ((q.ext e1 r).set i x1) r1) fun _ _ _ z => z⟩
theorem qts_nil : PTs X [] (tT C mYes W) := by
  refine ⟨fun pins s σ H Q I h => pts_nil.run pins s σ H Q I ?_⟩
  obtain ⟨ρ, E, S, q, r, h⟩ := h
  exact PR.now (rel := relB) h r rfl
theorem qts_one {c : Expr} {t : MT} (h : PT X c (tT C t W)) : PTs X [c] (tT C t W) := pts_one h
end
end FX

set_option Elab.async false
set_option linter.all false
set_option maxRecDepth 100000
set_option maxHeartbeats 2000000
set_option autoImplicit false
/-! FX9: chains, list(range(..)), zip, a def's body, what the head tells. -/
namespace FX
open PySem PySem.Spec PyProof.Rows L2
section
variable {X : Cx} {C : Wd} {W : WX}
theorem qe_chain {a b c : Expr} {ma mb mc : ME} {op op' : CmpOp} {r r' : R2} {f g : MO} {pos : Pos} (ho : OpR X (compareOp op) r) (ho' : OpR X (compareOp op') r') (hf : OpF C f r) (hg : OpF C g r') (ha : PE X a (tI C ma W)) (hb : PE X b (tI C mb W)) (hc : PE X c (tI C mc W))
    (hm : lastMarks [op, op'] [b, c] = false := by with_unfolding_all rfl) : PE X (.Compare a [op, op'] [b, c] pos) (tI C (mChain f g ma mb mc) W) :=
  pe_mono (pe_chain ho ho' ha hb hc hm) fun _ _ _ h => chain_mono hf hg h
theorem qt_chain {a b c : Expr} {ma mb mc : ME} {op op' : CmpOp} {r r' : R2} {f g : MO} {pos : Pos} (ho : OpR X (compareOp op) r) (ho' : OpR X (compareOp op') r') (hf : OpF C f r) (hg : OpF C g r') (ha : PE X a (tI C ma W)) (hb : PE X b (tI C mb W)) (hc : PE X c (tI C mc W))
    (hm : lastMarks [op, op'] [b, c] = false := by with_unfolding_all rfl) : PT X (.Compare a [op, op'] [b, c] pos) (tT C (mTB (mChain f g ma mb mc)) W) :=
  pt_mono (pt_chain ho ho' ha hb hc hm) fun σ H Q h => by
    obtain ⟨ρ, E, S, q, r0, h⟩ := h
    refine chain_mono (C := C) (W := W) hf hg ⟨ρ, E, S, q, r0, PR.mono (PR.bind (rel := RV C) h) (fun x H1 ⟨ρ1, a, S1, e1, r1, x1, h1⟩ => ?_) fun _ _ _ z => z⟩
    split at h1
    · exact ⟨_, rv_bl.mp x1, PR.now (rel := relB) h1 r1 rfl⟩
    · exact h1.elim
/-! ### list(range(..)) -/
theorem rvs_range {ρ : Map} {H : Hp} (n : Nat) (a : Int) : RVs C ρ H (rangeI a n) ((List.range n).map fun i => V.int (a + (i : Nat))) := by
  induction n generalizing a with
  | zero => exact rvs_nil.mpr rfl
  | succ n ih =>
    rw [List.range_succ_eq_map, List.map_cons, List.map_map]
    refine rvs_cons.mpr ⟨.int a, _, by simp; rfl, rv_int.mpr rfl, ?_⟩
    have e : ((fun i : Nat => V.int (a + (i : Nat))) ∘ Nat.succ) = fun i : Nat => V.int (a + 1 + (i : Nat)) := by
      funext i
      show V.int _ = V.int _
      congr 1
      omega
    rw [e]
    exact ih (a + 1)
def rgFit (a b : Int) : Bool := in62 a && in62 b && Nat.ble (b - a).toNat 16777216
theorem rgFit_ok {a b : Int} (h : rgFit a b = true) : RgOk a b := by
  unfold rgFit at h
  rw [Bool.and_eq_true, Bool.and_eq_true] at h
  obtain ⟨h1, h2⟩ := in62_ok h.1.1
  obtain ⟨h3, h4⟩ := in62_ok h.1.2
  exact ⟨h1, h2, h3, h4, Nat.le_of_ble_eq_true h.2⟩
def mLstRg (f : IV → Sto → R IV) (m : ME) : ME := fun E S => (m E S).bind f
def fLstRg1 : IV → Sto → R IV := fun a S => match a with
  | .int b => bif rgFit 0 b then .ok (.ref S.top) (S.new (.lst (rangeI 0 b.toNat))) else .no
  | _ => .no
def fLstRg2 : MO := fun a b S => match a, b with
  | .int a, .int b => bif rgFit a b then .ok (.ref S.top) (S.new (.lst (rangeI a (b - a).toNat))) else .no
  | _, _ => .no
theorem qe_listRg1 {e : Expr} {m : ME} {p p2 pos pos2 : Pos} (hc : X.calm = true) (hg : Gl X "list") (hm : X.mg "list" = none) (hg2 : Gl X "range") (hm2 : X.mg "range" = none) (he : PE X e (tI C m W)) (na : starEach [e] X.env = (false, eval e X.env) :: starEach [] X.env := by rfl)
    (na2 : starEach [.Call (.Name "range" p) [e] [] pos] X.env = (false, eval (.Call (.Name "range" p) [e] [] pos) X.env) :: starEach [] X.env := by rfl) : PE X (.Call (.Name "list" p2) [.Call (.Name "range" p) [e] [] pos] [] pos2) (tI C (mU fLstRg1 m) W) :=
  pe_mono (pe_listRg hc hg hm (prg_1 hg2 hm2 he na) na2) fun σ H Q h => by
    obtain ⟨ρ, E, S, q, r0, h⟩ := h
    refine ⟨ρ, E, S, q, r0, PR.mono (PR.bind (rel := RV C) h) (fun x H1 ⟨ρ1, a, S1, e1, r1, x1, h1⟩ => ?_) fun _ _ _ z => z⟩
    unfold fLstRg1 at h1
    split at h1
    · rename_i b
      cases z : rgFit 0 b with
      | false => rw [z] at h1; exact h1.elim
      | true =>
        rw [z] at h1
        refine ⟨b, rv_int.mp x1, rgFit_ok z, fun l hl => ?_⟩
        have e : rgV 0 b = (List.range b.toNat).map fun i => V.int (0 + (i : Nat)) := by unfold rgV; rw [Int.sub_zero]
        rw [e]
        obtain ⟨g1, g2, g3⟩ := new_lst r1 hl (rvs_range (C := C) (ρ := ρ1) (H := H1) b.toNat 0)
        exact h1 _ _ _ g1 g2 g3
    · exact h1.elim
theorem fLstRg2_inv {a b : IV} {ρ : Map} {S : Sto} {H : Hp} {Q : VK} {W : XK} (h : PR C (RV C) (fLstRg2 a b S) ρ S H Q W) : ∃ i j, a = .int i ∧ b = .int j ∧ rgFit i j = true ∧ PR C (RV C) (.ok (.ref S.top) (S.new (.lst (rangeI i (j - i).toNat)))) ρ S H Q W := by
  unfold fLstRg2 at h
  split at h
  · rename_i i j
    cases z : rgFit i j with
    | false => rw [z] at h; exact h.elim
    | true => rw [z] at h; exact ⟨i, j, rfl, rfl, z, h⟩
  · exact h.elim
theorem qe_listRg2 {e e2 : Expr} {m m2 : ME} {p p2 pos pos2 : Pos} (hc : X.calm = true) (hg : Gl X "list") (hm : X.mg "list" = none) (hg2 : Gl X "range") (hm2 : X.mg "range" = none) (he : PE X e (tI C m W)) (he2 : PE X e2 (tI C m2 W)) (na : starEach [e, e2] X.env = (false, eval e X.env) :: starEach [e2] X.env := by rfl)
    (nb : starEach [e2] X.env = (false, eval e2 X.env) :: starEach [] X.env := by rfl)
    (hp : (backTo pos (starEach [e2] X.env)).any (·.1) = false := by rfl) (na2 : starEach [.Call (.Name "range" p) [e, e2] [] pos] X.env = (false, eval (.Call (.Name "range" p) [e, e2] [] pos) X.env) :: starEach [] X.env := by rfl) : PE X (.Call (.Name "list" p2) [.Call (.Name "range" p) [e, e2] [] pos] [] pos2) (tI C (mB fLstRg2 m m2) W) :=
  pe_mono (pe_listRg hc hg hm (prg_2 hg2 hm2 he he2 na nb hp) na2) fun σ H Q h => by
    obtain ⟨ρ, E, S, q, r0, h⟩ := h
    refine ⟨ρ, E, S, q, r0, PR.mono (PR.bind (rel := RV C) h) (fun x H1 ⟨ρ1, a, S1, e1, r1, x1, h1⟩ => ?_) fun _ _ _ z => z⟩
    refine ⟨ρ1, E, S1, q.ext e1 r0, r1, PR.mono (PR.bind (rel := RV C) h1) (fun y H2 ⟨ρ2, b, S2, e2, r2, y2, h2⟩ => ?_) fun _ _ _ z => z⟩
    obtain ⟨i, j, rfl, rfl, z, h3⟩ := fLstRg2_inv h2
    refine ⟨i, j, rv_int.mp (x1.ext e2 r1), rv_int.mp y2, rgFit_ok z, fun l hl => ?_⟩
    obtain ⟨g1, g2, g3⟩ := new_lst r2 hl (rvs_range (C := C) (ρ := ρ2) (H := H2) (j - i).toNat i)
    exact h3 _ _ _ g1 g2 g3
/-! ### methods of lists -/
def MetF (C : Wd) (f : IV → List IV → Sto → R IV) (r : V → List V → Hp → VK → Prop) : Prop := ∀ ρ S H a as x xs Q W, Rel C ρ S H → RV C ρ H a x → RVs C ρ H as xs → PR C (RV C) (f a as S) ρ S H Q W → r x xs H Q
def mMet (f : IV → List IV → Sto → R IV) (m : ME) (ms : MA) : ME := fun E S => (m E S).bind fun a S1 => match tyOf S1 a with
  | some .list => (ms E S1).bind fun as S2 => f a as S2
  | _ => .no
theorem tyV_list {ρ : Map} {S : Sto} {H : Hp} {a : IV} {x : V} (r : Rel C ρ S H) (e : tyOf S a = some .list) (h : RV C ρ H a x) : tyV C.K "list" x H := by
  cases a with
  | ref n =>
    unfold tyOf at e
    dsimp only at e
    split at e
    · rename_i g
      obtain ⟨b, vs, _, rfl, t, _⟩ := cell_at r h g
      exact Or.inl ⟨rfl, _, SqL.of t⟩
    · cases e
  | frz xs =>
    obtain ⟨b, vs, rfl, t, _⟩ := rv_frz.mp h
    exact Or.inl ⟨rfl, _, t.sq⟩
  | _ => cases e
theorem qe_met {o e : Expr} {es : List Expr} {name : Str} {id : String} {m : ME} {ms : MA} {f : IV → List IV → Sto → R IV} {r : V → List V → Hp → VK → Prop} {apos pos : Pos} (hK : X.K = C.K) (slot : Slot "list" name id) (hty : typeOf (.builtin id) = pure (.type "method_descriptor")) (hm : MtR X id r) (hf : MetF C f r) (ho : PE X o (tI C m W)) (ha : PA X (e :: es) (tA C ms W))
    (k : ∀ {t : TE} {ta : TA}, PE X o t → PA X (e :: es) ta → PE X (.Call (.Attribute o name apos) (e :: es) [] pos) (tBM X.K "list" r t ta)) : PE X (.Call (.Attribute o name apos) (e :: es) [] pos) (tI C (mMet f m ms) W) :=
  pe_mono (k ho ha) fun σ H Q h => by
    obtain ⟨ρ, E, S, q, r0, h⟩ := h
    refine ⟨ρ, E, S, q, r0, PR.mono (PR.bind (rel := RV C) h) (fun x H1 ⟨ρ1, a, S1, e1, r1, x1, h1⟩ => ?_) fun _ _ _ z => z⟩
    split at h1
    · rename_i et
      refine ⟨by rw [hK]; exact tyV_list r1 et x1, ρ1, E, S1, q.ext e1 r0, r1, PR.mono (PR.bind (rel := RVs C) h1) (fun y H2 ⟨ρ2, b, S2, e2, r2, y2, h2⟩ => ?_) fun _ _ _ z => z⟩
      exact hf ρ2 S2 H2 a b x y Q _ r2 (x1.ext e2 r1) y2 h2
    · exact h1.elim
def fAppend : IV → List IV → Sto → R IV := fun a as S => match a, as with
  | .ref n, [v] => (match S.get n with
    | some (.lst xs) => bif Nat.blt xs.length 16777216 then .ok .non (S.put n (.lst (xs ++ [v]))) else .no
    | none => .no)
  | _, _ => .no
theorem fAppend_ok : MetF C fAppend rAppend := by
  intro ρ S H a as x xs Q W r ha has h
  unfold fAppend at h
  split at h
  · rename_i n v
    obtain ⟨y, rfl, hy⟩ := rvs_one has
    split at h
    · rename_i ys g
      obtain ⟨b, vs, h1, rfl, h3, h4⟩ := cell_at r ha g
      cases z : Nat.blt ys.length 16777216 with
      | false => rw [z] at h; exact h.elim
      | true =>
        rw [z] at h
        obtain ⟨e1, r1⟩ := put_lst r g h1 h3 (h4.append (rvs_cons.mpr ⟨y, [], rfl, hy, rvs_nil.mpr rfl⟩))
        refine ⟨b, vs, y, rfl, rfl, h3, ?_, h ρ _ _ e1 r1 (rv_non.mpr rfl)⟩
        rw [h4.length, sizeLine_eq]
        exact Nat.le_of_ble_eq_true z
    · exact h.elim
  · exact h.elim
/-! ### how many arguments -/
def LenA (ms : MA) (n : Nat) : Prop := ∀ E S as S', ms E S = .ok as S' → as.length = n
theorem lenA_nil : LenA mNil 0 := fun E S as S' h => by
  unfold mNil at h
  cases h
  rfl
theorem lenA_cons {m : ME} {ms : MA} {n : Nat} (h : LenA ms n) : LenA (mCons m ms) (n + 1) := fun E S as S' e => by
  unfold mCons at e
  cases e1 : m E S with
  | no => rw [e1] at e; cases e
  | ex x S1 => rw [e1] at e; cases e
  | ok v S1 =>
    rw [e1] at e
    have e : (ms E S1).bind (fun vs S2 => R.ok (v :: vs) S2) = .ok as S' := e
    cases e2 : ms E S1 with
    | no => rw [e2] at e; cases e
    | ex x S2 => rw [e2] at e; cases e
    | ok vs S2 =>
      rw [e2] at e
      cases e
      rw [List.length_cons, h E S1 vs _ e2]
end
/-! ### a def -/
def mDef (n : Nat) (b : MS) : MF := fun as S => match b (as.map some ++ List.replicate (n - as.length) none) S with
  | .nx _ S' => .ok .non S'
  | .rt v S' => .ok v S'
  | .ex e _ S' => .ex e S'
  | _ => .no
theorem re_start {C : Wd} {ρ : Map} {H : Hp} {N : List Str} : ∀ {as : List IV} {vs : List V}, RVs C ρ H as vs → RE C ρ H (as.map some ++ List.replicate (N.length - as.length) none) (L2.start N vs) := by
  intro as vs h
  have hl := h.length
  unfold L2.start
  rw [hl]
  refine ⟨by simp [hl], fun i x e => ?_⟩
  by_cases hi : i < as.length
  · rw [List.getElem?_append_left (by simpa using hi), List.getElem?_map] at e
    cases e2 : as[i]? with
    | none => rw [e2] at e; cases e
    | some y =>
      rw [e2] at e
      have ey : y = x := by simpa using e
      subst ey
      obtain ⟨v, hv, rv⟩ := h.get e2
      exact ⟨v, by rw [List.getElem?_append_left (by rw [List.length_map, hl]; exact hi), List.getElem?_map, hv]; rfl, rv⟩
  · rw [List.getElem?_append_right (by simpa using hi)] at e
    rw [List.getElem?_replicate] at e
    split at e <;> simp at e
section
variable {P : Program} {w : World} {K : PySem.W.Frag} {mg : Str → Option Value} {base : Heap} {C : Wd}
/-- a def stands in the text, its body is told by b -/
theorem qf_def {x qual : Str} {params : Arguments} {body : List Stmt} {scope : Scope} {dvs : List V} {kws : List (Str × V)} {f : Addr} {fd : FuncData} {N ps : List Str} {k : Nat} {b : MS} (F : FunD K x qual params body scope dvs kws f fd) (S : FnScope N ps scope)
    (hb : ∀ (cdv : Value) (A : Around) (outer : List Env) (s : Shared) (H : Hp) (E : XK), Room k (A.deeper (envOfC qual scope s.heap.objs.size f cdv)) → PSs (cxOf (L2.CX P w) P w K mg base N qual scope f cdv A outer s H E) body (tS C b (fun c d _ H => E c d H))) :
    FnOk P w K mg base (L2.CX P w) (k + 1) f fd ps (spI C ps.length (mDef N.length b)) := by
  refine F.ok S (fun vs H Q E h => h.1) fun cdv A outer s H vs Q E hr h => ⟨_, hb cdv A outer s H E hr, ?_⟩
  obtain ⟨hl, ρ, S0, as, r, hv, q⟩ := h
  refine ⟨ρ, _, S0, re_start hv, r, ?_⟩
  unfold mDef at q
  cases e : b (as.map some ++ List.replicate (N.length - as.length) none) S0 with
  | nx E' S' => rw [e] at q; exact fun ρ1 H1 σ1 e1 r1 _ => q ρ1 H1 .non e1 r1 (rv_non.mpr rfl)
  | rt v S' => rw [e] at q; exact q
  | bk E' S' => rw [e] at q; exact q.elim
  | ct E' S' => rw [e] at q; exact q.elim
  | ex x E' S' => rw [e] at q; exact fun ρ1 H1 σ1 c d e1 r1 _ x1 => q ρ1 H1 c d e1 r1 x1
  | no => rw [e] at q; exact q.elim
/-- a def of the text at its name -/
def Ok (P : Program) (w : World) (K : PySem.W.Frag) (mg : Str → Option Value) (base : Heap) (C : Wd) (k : Nat) (x : Str) (ps : List Str) (m : MF) : Prop :=
  ∃ fd, FnOk P w K mg base (L2.CX P w) k (He.ga K x) fd ps (spI C ps.length m) ∧ Binds K fd ps [] ∧ PySem.W.keepIn K (.ref (He.ga K x)) = true ∧ mg x = some (.ref (He.ga K x))
theorem qe_fn {X : Cx} {W : WX} {k j : Nat} {x : Str} {ps : List Str} {m : MF} {e : Expr} {es : List Expr} {ms : MA} {p pos : Pos} (ok : Ok X.prog X.w X.K X.mg X.base C k x ps m) (tk : Takes X W) (hr : Room j X.A) (hkj : k ≤ j) (hg : Gl X x)
    (ha : PA X (e :: es) (tA C ms W)) (hn : LenA ms ps.length) (hl : (e :: es).length = ps.length) (hdb : (x == ("__debug__" : Str)) = false := by decide) (he : starEach (e :: es) X.env = (false, eval e X.env) :: starEach es X.env := by rfl) (hpl : (backTo pos (starEach es X.env)).any (·.1) = false := by rfl) :
    PE X (.Call (.Name x p) (e :: es) [] pos) (tI C (mCallO m ms) W) := by
  obtain ⟨fd, F, hb, hk, hm⟩ := ok
  exact qe_call tk F (hr.mono hkj) hg hm hk hb ha hl hdb he hpl (fun E S as S' h => by rw [hn E S as S' h, hl])
end
end FX

set_option Elab.async false
set_option linter.all false
set_option maxRecDepth 100000
set_option maxHeartbeats 2000000
set_option autoImplicit false
/-! FX10: short words for the printer. -/
namespace FX
open PySem PySem.Spec PyProof.Rows L2
/-- the text's names by number -/
abbrev Cw (K : PySem.W.Frag) (g : Nat → Str) (f : Nat → Str) : Wd := ⟨K, fun n => He.ga K (g n), f⟩
section
variable {X : Cx} {C : Wd} {W : WX}
theorem qv (i : Nat) {x : Str} {pos : Pos} (hN : X.N[i]? = some x := by rfl) (hv : Vis X.env.scope x := by first | exact Or.inl rfl | exact Or.inr (Or.inl rfl) | exact Or.inr (Or.inr rfl)) (hd : (x == ("__debug__" : Str)) = false := by decide)
    (hcd : (x == ("__classdict__" : Str)) = false := by decide) : PE X (.Name x pos) (tI C (mV i) W) := qe_var hN hv hd hcd
theorem qg (i : Nat) {x : Str} {pos : Pos} (hN : X.N.Nodup) (hi : X.N[i]? = some x := by rfl) (hx : Loc X.env.scope x := by first | exact Or.inl rfl | exact Or.inr rfl) (hf : X.fn x = true ∨ X.env.scope.names.lookup x = some .local := by first | exact .inl rfl | exact .inr rfl) : PG X (.Name x pos) (gI C (.name i)) := qg_name hN hi hx hf
theorem qset (i : Nat) {x : Str} {e : Expr} {m : ME} {pos pos' : Pos} (hN : X.N.Nodup) (he : PE X e (tI C m W)) (hi : X.N[i]? = some x := by rfl) (hx : Loc X.env.scope x := by first | exact Or.inl rfl | exact Or.inr rfl) (hs : swapsWith e (some (.Name x pos')) pos.line X.env = pure false := by rfl) (hf : X.fn x = true ∨ X.env.scope.names.lookup x = some .local := by first | exact .inl rfl | exact .inr rfl) :
    PS X (.Assign [.Name x pos'] e pos) (tS C (mSet i m) W) := qs_set hN hi hx he hs hf
theorem qaug (i : Nat) {x : Str} {e : Expr} {m : ME} {op : Operator} {f : MO} {ti : TIp} {pos pos' : Pos} (hN : X.N.Nodup) (ho : PIp X op ti) (hfo : OpF C f ti) (he : PE X e (tI C m W)) (hi : X.N[i]? = some x := by rfl) (hx : Loc X.env.scope x := by first | exact Or.inl rfl | exact Or.inr rfl) (hf : X.fn x = true ∨ X.env.scope.names.lookup x = some .local := by first | exact .inl rfl | exact .inr rfl) :
    PS X (.AugAssign (.Name x pos') op e pos) (tS C (mAug i f m) W) := qs_aug hN hi hx he ho hfo hf
theorem qgint {x : Str} {i : Int} {pos : Pos} (hm : ∃ t, X.mg x = some (.int i t)) (hg : Gl X x := by rfl) (hd : (x == ("__debug__" : Str)) = false := by decide) : PE X (.Name x pos) (tI C (mC (.int i)) W) := by
  obtain ⟨t, h⟩ := hm
  exact qe_gint hg h hd
theorem rvs_ints {ρ : Map} {H : Hp} : ∀ ns : List Int, RVs C ρ H (ns.map IV.int) (ns.map V.int)
  | [] => rvs_nil.mpr rfl
  | n :: r => rvs_cons.mpr ⟨.int n, _, rfl, rv_int.mpr rfl, rvs_ints r⟩
/-- a tuple of numbers of the text -/
theorem qgtup {x : Str} {ns : List Int} {a : Addr} {pos : Pos} (hm : X.mg x = some (.ref a)) (ht : ∀ H, SqT C.K H a (ns.map V.int)) (hg : Gl X x := by rfl) (hd : (x == ("__debug__" : Str)) = false := by decide) : PE X (.Name x pos) (tI C (mC (.tup (ns.map IV.int))) W) :=
  qe_c (pe_glob hg hm (v := .ref a) rfl hd) fun ρ H => rv_tup.mpr ⟨a, _, rfl, ht H, rvs_ints ns⟩
theorem qcmp {a b : Expr} {ma mb : ME} {op : CmpOp} {r : R2} {f : MO} {pos : Pos} (ho : OpR X (compareOp op) r) (hf : OpF C f r) (ha : PE X a (tI C ma W)) (hb : PE X b (tI C mb W)) (hm : behindInMarks op b = false := by first | exact nomark _ | rfl) : PE X (.Compare a [op] [b] pos) (tI C (mB f ma mb) W) := qe_cmp ho hf ha hb hm
theorem qtcmp {a b : Expr} {ma mb : ME} {op : CmpOp} {r : R2} {f : MO} {pos : Pos} (ho : OpR X (compareOp op) r) (hf : OpF C f r) (ha : PE X a (tI C ma W)) (hb : PE X b (tI C mb W)) (hm : behindInMarks op b = false := by first | exact nomark _ | rfl) : PT X (.Compare a [op] [b] pos) (tT C (mTB (mB f ma mb)) W) := qt_cmp ho hf ha hb hm
theorem u64 {k : Nat} {A : Around} (hr : Room k A) : A.units + 64 < cLine := hr.units
theorem u65 {k : Nat} {A : Around} (hr : Room k A) : A.units + 65 < cLine := by have := hr.un; omega
theorem op_eqK (hK : X.K = C.K) (hu : X.A.units + 64 < cLine) : OpR X (compareOp .Eq) (rEqA C.K) := by rw [← hK]; exact op_eqA hu
theorem op_neK (hK : X.K = C.K) (hu : X.A.units + 64 < cLine) : OpR X (compareOp .NotEq) (rNeA C.K) := by rw [← hK]; exact op_neA hu
theorem op_inK (hK : X.K = C.K) (hu : X.A.units + 65 < cLine) : OpR X (compareOp .In) (rInA C.K) := by rw [← hK]; exact op_inA hu
theorem op_notInK (hK : X.K = C.K) (hu : X.A.units + 65 < cLine) : OpR X (compareOp .NotIn) (rNotInA C.K) := by rw [← hK]; exact op_notInA hu
/-! ### op= of numbers -/
def fAddI : MO := fun a b S => match a, b with
  | .int i, .int j => .ok (.int (i + j)) S
  | _, _ => .no
theorem fAddI_ok : OpF C fAddI (rI0 fun i j => .int (i + j)) := by
  intro ρ S H a b x y Q W r ha hb h
  unfold fAddI at h
  split at h
  · exact ⟨_, _, rv_int.mp ha, rv_int.mp hb, PR.now (v := IV.int _) h r (rv_int.mpr rfl)⟩
  · exact h.elim
def fDivS : MO := fun a b S => match a, b with
  | .int i, .int j => okI (decide (0 < j) && decide (j < 1073741824)) (i / j) S
  | _, _ => .no
theorem fDivS_ok : OpF C fDivS (rI CDiv fun i j => .int (i / j)) := by
  intro ρ S H a b x y Q W r ha hb h
  unfold fDivS at h
  split at h
  · obtain ⟨h1, h2⟩ := okI_pr r h
    rw [Bool.and_eq_true] at h1
    exact ⟨_, _, rv_int.mp ha, rv_int.mp hb, ⟨of_decide_eq_true h1.1, of_decide_eq_true h1.2⟩, h2⟩
  · exact h.elim
section
variable {e : Expr} {es : List Expr} {ms : MA} {p pos : Pos}
theorem qlen (hK : X.K = C.K) (hm : X.mg "len" = none) (ha : PA X [e] (tA C ms W)) (hg : Gl X "len" := by rfl) (he : starEach [e] X.env = (false, eval e X.env) :: starEach [] X.env := by rfl) : PE X (.Call (.Name "len" p) [e] [] pos) (tI C (mCall bLen ms) W) :=
  qe_callB (r := rLenA X.K) call_len (by rw [hK]; exact bLen_ok) hg hm PySem.boot_len ha (by decide) (by decide) he rfl
theorem qabs (hm : X.mg "abs" = none) (ha : PA X [e] (tA C ms W)) (hg : Gl X "abs" := by rfl) (he : starEach [e] X.env = (false, eval e X.env) :: starEach [] X.env := by rfl) : PE X (.Call (.Name "abs" p) [e] [] pos) (tI C (mCall bAbs ms) W) :=
  qe_callB call_abs bAbs_ok hg hm (by decide +kernel) ha (by decide) (by decide) he rfl
theorem qint (hm : X.mg "int" = none) (ha : PA X [e] (tA C ms W)) (hg : Gl X "int" := by rfl) (he : starEach [e] X.env = (false, eval e X.env) :: starEach [] X.env := by rfl) : PE X (.Call (.Name "int" p) [e] [] pos) (tI C (mCall bInt ms) W) :=
  qe_callTy call_int1 bInt_ok hg hm (by decide +kernel) ha (by decide) (by decide) he rfl
theorem qmax (hK : X.K = C.K) (hc : X.calm = true) (hm : X.mg "max" = none) (ha : PA X (e :: es) (tA C ms W)) (hg : Gl X "max" := by rfl) (he : starEach (e :: es) X.env = (false, eval e X.env) :: starEach es X.env := by rfl) (hpl : (backTo pos (starEach es X.env)).any (·.1) = false := by rfl) : PE X (.Call (.Name "max" p) (e :: es) [] pos) (tI C (mCall bMax ms) W) :=
  qe_callB (r := rMax2 X.K) (call_maxA hc) (by rw [hK]; exact bMax_ok) hg hm (by decide +kernel) ha (by decide) (by decide) he hpl
theorem qmin (hK : X.K = C.K) (hc : X.calm = true) (hm : X.mg "min" = none) (ha : PA X (e :: es) (tA C ms W)) (hg : Gl X "min" := by rfl) (he : starEach (e :: es) X.env = (false, eval e X.env) :: starEach es X.env := by rfl) (hpl : (backTo pos (starEach es X.env)).any (·.1) = false := by rfl) : PE X (.Call (.Name "min" p) (e :: es) [] pos) (tI C (mCall bMin ms) W) :=
  qe_callB (r := rMin2 X.K) (call_minA hc) (by rw [hK]; exact bMin_ok) hg hm (by decide +kernel) ha (by decide) (by decide) he hpl
theorem qsum (hK : X.K = C.K) (hc : X.calm = true) (hm : X.mg "sum" = none) (ha : PA X [e] (tA C ms W)) (hg : Gl X "sum" := by rfl) (he : starEach [e] X.env = (false, eval e X.env) :: starEach [] X.env := by rfl) : PE X (.Call (.Name "sum" p) [e] [] pos) (tI C (mCall bSum ms) W) :=
  qe_callB (r := rSum X.K) (cr_sum hc) (by rw [hK]; exact bSum_ok) hg hm (by decide +kernel) ha (by decide) (by decide) he rfl
theorem qall (hK : X.K = C.K) (hc : X.calm = true) (hm : X.mg "all" = none) (ha : PA X [e] (tA C ms W)) (hg : Gl X "all" := by rfl) (he : starEach [e] X.env = (false, eval e X.env) :: starEach [] X.env := by rfl) : PE X (.Call (.Name "all" p) [e] [] pos) (tI C (mCall bAll ms) W) :=
  qe_callB (r := rAll X.K) (cr_all hc) (by rw [hK]; exact bAll_ok) hg hm (by decide +kernel) ha (by decide) (by decide) he rfl
theorem qany (hK : X.K = C.K) (hc : X.calm = true) (hm : X.mg "any" = none) (ha : PA X [e] (tA C ms W)) (hg : Gl X "any" := by rfl) (he : starEach [e] X.env = (false, eval e X.env) :: starEach [] X.env := by rfl) : PE X (.Call (.Name "any" p) [e] [] pos) (tI C (mCall bAny ms) W) :=
  qe_callB (r := rAny X.K) (cr_any hc) (by rw [hK]; exact bAny_ok) hg hm (by decide +kernel) ha (by decide) (by decide) he rfl
theorem qtuple (hK : X.K = C.K) (hm : X.mg "tuple" = none) (ha : PA X [e] (tA C ms W)) (hg : Gl X "tuple" := by rfl) (he : starEach [e] X.env = (false, eval e X.env) :: starEach [] X.env := by rfl) : PE X (.Call (.Name "tuple" p) [e] [] pos) (tI C (mCall bTuple ms) W) :=
  qe_callTy call_tuple_of (by rw [hK]; exact bTuple_ok) hg hm (by decide +kernel) ha (by decide) (by decide) he rfl
theorem qlist (hK : X.K = C.K) (hm : X.mg "list" = none) (ha : PA X [e] (tA C ms W)) (hg : Gl X "list" := by rfl) (he : starEach [e] X.env = (false, eval e X.env) :: starEach [] X.env := by rfl) : PE X (.Call (.Name "list" p) [e] [] pos) (tI C (mCall bList ms) W) :=
  qe_callTy call_list_of (by rw [hK]; exact bList_ok) hg hm (by decide +kernel) ha (by decide) (by decide) he rfl
theorem qisinst (hK : X.K = C.K) (hm : X.mg "isinstance" = none) (ha : PA X (e :: es) (tA C ms W)) (hg : Gl X "isinstance" := by rfl) (he : starEach (e :: es) X.env = (false, eval e X.env) :: starEach es X.env := by rfl) (hpl : (backTo pos (starEach es X.env)).any (·.1) = false := by rfl) : PE X (.Call (.Name "isinstance" p) (e :: es) [] pos) (tI C (mCall bIsI ms) W) :=
  qe_callB (r := rIsi X.K) call_isi (by rw [hK]; exact bIsI_ok) hg hm (by decide +kernel) ha (by decide) (by decide) he hpl
theorem qdivmod (hm : X.mg "divmod" = none) (ha : PA X (e :: es) (tA C ms W)) (hg : Gl X "divmod" := by rfl) (he : starEach (e :: es) X.env = (false, eval e X.env) :: starEach es X.env := by rfl) (hpl : (backTo pos (starEach es X.env)).any (·.1) = false := by rfl) : PE X (.Call (.Name "divmod" p) (e :: es) [] pos) (tI C (mCall bDivmod ms) W) :=
  qe_callB call_divmod bDivmod_ok hg hm (by decide +kernel) ha (by decide) (by decide) he hpl
theorem qrepr (hm : X.mg "repr" = none) (ha : PA X [e] (tA C ms W)) (hg : Gl X "repr" := by rfl) (he : starEach [e] X.env = (false, eval e X.env) :: starEach [] X.env := by rfl) : PE X (.Call (.Name "repr" p) [e] [] pos) (tI C (mCall bRepr ms) W) :=
  qe_callB call_reprA bRepr_ok hg hm (by decide +kernel) ha (by decide) (by decide) he rfl
theorem qgcd (hm : X.mg "gcd" = some (.builtin "math.gcd")) (ha : PA X (e :: es) (tA C ms W)) (hg : Gl X "gcd" := by rfl) (he : starEach (e :: es) X.env = (false, eval e X.env) :: starEach es X.env := by rfl) (hpl : (backTo pos (starEach es X.env)).any (·.1) = false := by rfl) : PE X (.Call (.Name "gcd" p) (e :: es) [] pos) (tI C (mCall bGcd ms) W) :=
  qe_callFun cr_gcd bGcd_ok hg hm ha (by decide) he hpl
theorem qappend {o : Expr} {m : ME} {apos : Pos} (hK : X.K = C.K) (ho : PE X o (tI C m W)) (ha : PA X (e :: es) (tA C ms W))
    (k : ∀ {t : TE} {ta : TA}, PE X o t → PA X (e :: es) ta → PE X (.Call (.Attribute o "append" apos) (e :: es) [] pos) (tBM X.K "list" rAppend t ta)) : PE X (.Call (.Attribute o "append" apos) (e :: es) [] pos) (tI C (mMet fAppend m ms) W) :=
  qe_met hK PySem.F.slot_list_append PySem.F.type_list_append mt_append fAppend_ok ho ha k
end
end
end FX

set_option Elab.async false
set_option linter.all false
set_option maxRecDepth 100000
set_option maxHeartbeats 2000000
set_option autoImplicit false
/-! FX11: the head's facts with a check of one's own; a law's end. -/
namespace FX
open PySem PySem.Spec PyProof.Rows L2 He
/-! ### the Hook: hookD's facts and a check -/
def obsF (fa : List Fa) (fn : List DefD) (ck : PySem.W.Frag → Bool) (K : PySem.W.Frag) : AlD := ((fa.all fun f => f.ok K) && (ck K && fn.all fun d => d.ok K), fn.map fun d => fnW K d.at_)
def SaysF (fa : List Fa) (fn : List DefD) (ck : PySem.W.Frag → Bool) (K : PySem.W.Frag) : Prop := obsF fa fn ck K = valD fn
def obsFG (n : Nat) (fa : List Fa) (fn : List DefD) (ck : PySem.W.Frag → Bool) (g : Addr → Option Obj) : AlD := obsF fa fn ck (frG g (asD g n))
def hookF (n : Nat) (fa : List Fa) (fn : List DefD) (ck : PySem.W.Frag → Bool) : PySem.W.Hook where
  α := AlD
  obs := fun s => obsFG n fa fn ck s.heap.get?
  val := fun _ => valD fn
  says := fun _ h => ∃ K : PySem.W.Frag, K.In h ∧ SaysF fa fn ck K
  of := fun _ _ e => ⟨_, frG_in, e⟩
  keeps := fun _ _ _ ⟨K, hK, c⟩ k => ⟨K, PySem.W.Frag.In.keeps hK k, c⟩
theorem obsFG_eq {n : Nat} {fa : List Fa} {fn : List DefD} {ck : PySem.W.Frag → Bool} {g : Addr → Option Obj} {s : Shared} (h : ∀ a, g a = s.heap.get? a) : obsFG n fa fn ck g = (hookF n fa fn ck).obs s := by
  have e : g = s.heap.get? := funext h
  rw [e] <;> rfl
section
variable {fa : List Fa} {fn : List DefD} {ck : PySem.W.Frag → Bool} {K : PySem.W.Frag}
theorem SaysF.fact (c : SaysF fa fn ck K) (i : Nat) {f : Fa} (h : fa[i]? = some f := by rfl) : f.ok K = true := by
  have c1 := (ba (show ((fa.all fun f => f.ok K) && (ck K && fn.all fun d => d.ok K)) = true from congrArg (fun z : AlD => z.1) c)).1
  exact List.all_eq_true.mp c1 f (List.mem_of_getElem? h)
theorem SaysF.check (c : SaysF fa fn ck K) : ck K = true := (ba (ba (show ((fa.all fun f => f.ok K) && (ck K && fn.all fun d => d.ok K)) = true from congrArg (fun z : AlD => z.1) c)).2).1
theorem SaysF.def_ (c : SaysF fa fn ck K) (i : Nat) {d : DefD} (h : fn[i]? = some d := by rfl) : ∃ fd, FunD K d.name d.qual d.params d.body d.scope (d.dvs K) (d.kws K) (fAd K d.at_) fd := by
  have c2 := (ba (ba (show ((fa.all fun f => f.ok K) && (ck K && fn.all fun d => d.ok K)) = true from congrArg (fun z : AlD => z.1) c)).2).2
  have e : fn.map (fun d => fnW K d.at_) = fn.map DefD.val := congrArg (fun z : AlD => z.2) c
  have e2 : (fn.map fun d => fnW K d.at_)[i]? = (fn.map DefD.val)[i]? := by rw [e]
  rw [List.getElem?_map, List.getElem?_map, h] at e2
  exact DefD.funD (Option.some.inj e2) (List.all_eq_true.mp c2 d (List.mem_of_getElem? h))
end
/-- the module's name x is the built-in function id -/
def bltB (K : PySem.W.Frag) (x : Str) (id : String) : Bool := eqO (PySem.W.nsIn K mainGlobals x) (some (some (.builtin id)))
theorem bltB_ok {K : PySem.W.Frag} {h : Heap} {mg : Str → Option Value} (X : K.In h) (G : h.Ns mainGlobals mg) {x : Str} {id : String} (c : bltB K x id = true) : mg x = some (.builtin id) := PySem.W.mg_of X G (eqO_ok c)
/-! ### a law's end -/
theorem fnOk0 {P : Program} {w : World} {K : PySem.W.Frag} {mg : Str → Option Value} {base : Heap} {k : Nat} {f : Addr} {fd : FuncData} {ps : List Str} {sp : Sp} (F : FnOk P w K mg base (L2.CX P w) k f fd ps sp) :
    FnOk P w K mg base CX0 k f fd ps (fun vs H Q _ => sp vs H Q fun _ _ _ => False) :=
  ⟨fun vs H Q E h => F.len _ _ _ _ h, fun A outer s H args us vs Q E hr e0 hb hv hs => codeAny_mono (F.run A outer s H args us vs Q (fun _ _ _ => False) hr e0 hb hv hs) fun r s' hq => by
    cases r with
    | ok fl => cases fl <;> exact hq
    | error e =>
      obtain ⟨_, _, _, _, _, _, _, _, _, _, _, _, z⟩ := (show L2.CX P w outer H s (fun _ _ _ => False) e s' from hq)
      exact z.elim⟩
/-- the script is handed in -/
theorem law_sp {C : Wd} {m : MF} {n : Nat} (hm : ∀ ns : List Int, ns.length ≤ n → ∃ S, m [.frz (ns.map IV.int)] ⟨0, []⟩ = .ok (.bl true) S) {H : Hp} {a : Addr} {ns : List Int} (hl : ns.length ≤ n) (hO : Only H) (hS : SqL C.K H a (ns.map V.int)) :
    spI C 1 m [.ref a] H (fun v _ => v = .bl true) fun _ _ _ => False := by
  have hF : SqF C.K H a (ns.map V.int) := by
    rcases hS with (h | ⟨o, h⟩) | h
    · rcases hO a with z | ⟨o, xs, z⟩
      · rw [z] at h; cases h
      · rw [z] at h; cases h
    · exact .inl ⟨o, h⟩
    · exact .inr h
  have r : Rel C (fun _ => none) ⟨0, []⟩ H := ⟨fun i o g => (by rw [get_empty] at g; cases g), fun i j a h _ => (by cases h), fun i a h => (by cases h)⟩
  refine ⟨rfl, fun _ => none, ⟨0, []⟩, [.frz (ns.map IV.int)], r, rvs_cons.mpr ⟨.ref a, [], rfl, rv_frz.mpr ⟨a, _, rfl, hF, rvs_ints ns⟩, rvs_nil.mpr rfl⟩, ?_⟩
  obtain ⟨S, e⟩ := hm ns hl
  rw [e]
  exact fun ρ' H' x _ _ hx => rv_bl.mp hx
end FX

set_option Elab.async false
set_option linter.all false
set_option maxRecDepth 100000
set_option maxHeartbeats 2000000
set_option autoImplicit false
/-! FP: plain laws of the functions of FX, no program in sight -/
namespace FX
open PySem
/-! ### calls in an own store -/
theorem own_flat {f : MF} {as : List IV} {v : IV} {S' : Sto} (ha : flatRs as = true) (h : f as ⟨0, []⟩ = .ok v S') (hv : flatR v = true) (S : Sto) : own f as S = .ok v S := by
  unfold own
  rw [ha, h]
  simp only [hv, cond_true]
theorem own_ref {f : MF} {as : List IV} {n : Nat} {S' : Sto} (ha : flatRs as = true) (h : f as ⟨0, []⟩ = .ok (.ref n) S') (S : Sto) : own f as S = .ok (.ref (S.top + n)) ⟨S.top + S'.top, S'.cells.map (shiftO S.top) ++ S.cells⟩ := by
  unfold own
  rw [ha, h]
  rfl
theorem own_cell {f : MF} {as : List IV} (ha : flatRs as = false) (S : Sto) : own f as S = f as S := by
  unfold own
  rw [ha]
  rfl
theorem shifts_ints (d : Nat) : ∀ xs : List Int, shifts d (xs.map IV.int) = xs.map IV.int
  | [] => rfl
  | x :: xs => by
    show shift d (IV.int x) :: shifts d (xs.map IV.int) = _
    rw [shifts_ints d xs]
    rfl
theorem flat_ints : ∀ xs : List Int, flatRs (xs.map IV.int) = true
  | [] => rfl
  | x :: xs => by
    show (true && flatRs (xs.map IV.int)) = true
    rw [flat_ints xs]
    rfl
theorem get_app {S S' : Sto} (h0 : S'.cells.length = S'.top) (i : Nat) (hi : i < S.top) : (⟨S.top + S'.top, S'.cells.map (shiftO S.top) ++ S.cells⟩ : Sto).get i = S.get i := by
  unfold Sto.get
  show (if i < S.top + S'.top then (S'.cells.map (shiftO S.top) ++ S.cells)[S.top + S'.top - 1 - i]? else none) = _
  rw [if_pos (by omega), if_pos hi, List.getElem?_append_right (by rw [List.length_map]; omega), List.length_map, h0]
  congr 1
  omega
theorem get_app_new {S S' : Sto} (h0 : S'.cells.length = S'.top) (i : Nat) (hi : i < S'.top) : (⟨S.top + S'.top, S'.cells.map (shiftO S.top) ++ S.cells⟩ : Sto).get (S.top + i) = (S'.get i).map (shiftO S.top) := by
  unfold Sto.get
  show (if S.top + i < S.top + S'.top then (S'.cells.map (shiftO S.top) ++ S.cells)[S.top + S'.top - 1 - (S.top + i)]? else none) = _
  rw [if_pos (by omega), if_pos hi, List.getElem?_append_left (by rw [List.length_map]; omega), List.getElem?_map]
  congr 2
  omega
/-! ### results that a check has seen -/
def isV : IV → IV → Bool
  | .int i, .int j => decide (i = j)
  | .bl b, .bl c => b == c
  | .non, .non => true
  | _, _ => false
theorem isV_eq {a b : IV} (h : isV a b = true) : a = b := by
  cases a <;> cases b <;> first | exact absurd h Bool.false_ne_true | rfl | skip
  · rw [eq_of_beq h]
  · rw [of_decide_eq_true h]
def isR (v : IV) : R IV → Bool
  | .ok w _ => isV v w
  | _ => false
theorem isR_eq {v : IV} {r : R IV} (h : isR v r = true) : ∃ S, r = .ok v S := by
  cases r with
  | ok w S => exact ⟨S, by rw [isV_eq h]⟩
  | ex e S => cases h
  | no => cases h
def allInt : List IV → Option (List Int)
  | [] => some []
  | .int i :: r => (match allInt r with
    | some l => some (i :: l)
    | none => none)
  | _ :: _ => none
theorem allInt_eq : ∀ {xs : List IV} {l : List Int}, allInt xs = some l → xs = l.map IV.int
  | [], l, h => by cases h; rfl
  | .int i :: r, l, h => by
    have h' : (match allInt r with
      | some l => some (i :: l)
      | none => none) = some l := h
    cases e2 : allInt r with
    | none => rw [e2] at h'; cases h'
    | some l' =>
      rw [e2] at h'
      cases h'
      rw [allInt_eq e2]
      rfl
  | .non :: _, _, h => by cases h
  | .bl _ :: _, _, h => by cases h
  | .str _ :: _, _, h => by cases h
  | .tup _ :: _, _, h => by cases h
  | .frz _ :: _, _, h => by cases h
  | .ref _ :: _, _, h => by cases h
  | .glo _ :: _, _, h => by cases h
  | .ty _ :: _, _, h => by cases h
/-- the list of integers that a result names -/
def listOf : R IV → Option (List Int)
  | .ok (.ref n) S => if S.cells.length = S.top ∧ n < S.top then (match S.get n with
    | some (.lst xs) => allInt xs
    | none => none) else none
  | _ => none
theorem listOf_eq {r : R IV} {l : List Int} (h : listOf r = some l) : ∃ n S, r = .ok (.ref n) S ∧ S.cells.length = S.top ∧ n < S.top ∧ S.get n = some (.lst (l.map IV.int)) := by
  cases r with
  | ok v S =>
    cases v with
    | ref n =>
      have h' : (if S.cells.length = S.top ∧ n < S.top then (match S.get n with
        | some (.lst xs) => allInt xs
        | none => none) else none) = some l := h
      by_cases hh : S.cells.length = S.top ∧ n < S.top
      · rw [if_pos hh] at h'
        cases g : S.get n with
        | none => rw [g] at h'; cases h'
        | some o =>
          cases o with
          | lst xs =>
            rw [g] at h'
            exact ⟨n, S, rfl, hh.1, hh.2, by rw [← allInt_eq h']; exact g⟩
      · rw [if_neg hh] at h'; cases h'
    | _ => cases h
  | ex e S => cases h
  | no => cases h
/-- S' keeps the cells of S -/
def Keep (S S' : Sto) : Prop := ∀ n o, S.get n = some o → S'.get n = some o
theorem Keep.refl (S : Sto) : Keep S S := fun _ _ h => h
theorem Keep.trans {S S1 S2 : Sto} (h : Keep S S1) (h1 : Keep S1 S2) : Keep S S2 := fun n o g => h1 n o (h n o g)
theorem Keep.new (S : Sto) (o : IO) : Keep S (S.new o) := fun n o' h => by
  rw [get_new_ne (Nat.ne_of_lt (get_lt h))]
  exact h
theorem own_list {f : MF} {as : List IV} {l : List Int} (ha : flatRs as = true) (h : listOf (f as ⟨0, []⟩) = some l) (S : Sto) : ∃ n S', own f as S = .ok (.ref n) S' ∧ S.top ≤ n ∧ S'.get n = some (.lst (l.map IV.int)) ∧ Keep S S' := by
  obtain ⟨n, S', e, h0, h1, h2⟩ := listOf_eq h
  refine ⟨_, _, own_ref ha e S, Nat.le_add_right _ _, ?_, fun i o g => ?_⟩
  · rw [get_app_new h0 n h1, h2]
    show some (IO.lst (shifts _ (l.map IV.int))) = _
    rw [shifts_ints]
  · rw [get_app h0 i (get_lt g)]
    exact g
/-! ### loops -/
theorem forGo_items {tg : Tg} {b : MS} (P : List IV → Env' → Sto → Prop)
    (hs : ∀ x r E S, P (x :: r) E S → ∃ E1 E2 S2, bindT tg x E = some E1 ∧ b E1 S = .nx E2 S2 ∧ P r E2 S2) :
    ∀ (xs : List IV) (n : Nat) (E : Env') (S : Sto), xs.length < n → P xs E S → ∃ E' S', mForGo tg b n (.items xs) E S = .nx E' S' ∧ P [] E' S'
  | [], n + 1, E, S, _, h => ⟨E, S, rfl, h⟩
  | x :: r, n + 1, E, S, hn, h => by
    obtain ⟨E1, E2, S2, h1, h2, h3⟩ := hs x r E S h
    obtain ⟨E', S', h4, h5⟩ := forGo_items P hs r n E2 S2 (Nat.lt_of_succ_lt_succ hn) h3
    refine ⟨E', S', ?_, h5⟩
    unfold mForGo
    simp only [Wk.step, h1, h2]
    exact h4
theorem while_inv {t : MT} {b : MS} (P : Nat → Env' → Sto → Prop) (Q : Env' → Sto → Prop)
    (hs : ∀ k E S, P k E S → (∃ S1, t E S = .ok false S1 ∧ Q E S1) ∨ (∃ S1 E2 S2 k', t E S = .ok true S1 ∧ b E S1 = .nx E2 S2 ∧ k' < k ∧ P k' E2 S2)) :
    ∀ (n k : Nat) (E : Env') (S : Sto), k < n → P k E S → ∃ E' S', mWhile t b n E S = .nx E' S' ∧ Q E' S'
  | n + 1, k, E, S, hn, h => by
    rcases hs k E S h with ⟨S1, h1, h2⟩ | ⟨S1, E2, S2, k', h1, h2, h3, h4⟩
    · refine ⟨E, S1, ?_, h2⟩
      unfold mWhile
      rw [h1]
      rfl
    · obtain ⟨E', S', h5, h6⟩ := while_inv P Q hs n k' E2 S2 (by omega) h4
      refine ⟨E', S', ?_, h6⟩
      unfold mWhile
      rw [h1]
      show (match b E S1 with | .nx E2 S2 => _ | .ct E2 S2 => _ | .bk E2 S2 => _ | .rt v S2 => _ | .ex e E2 S2 => _ | .no => _) = _
      rw [h2]
      exact h5
/-- a comprehension over items whose element leaves the store -/
theorem lcGo_items {tg : Tg} {t : MT} {e : ME} {E : Env'} (g : IV → IV) (S : Sto)
    : ∀ (xs : List IV) (n : Nat) (acc : List IV), xs.length < n → (∀ x ∈ xs, ∃ E1, bindT tg x E = some E1 ∧ t E1 S = .ok true S ∧ e E1 S = .ok (g x) S) → mLcGo tg t e n (.items xs) acc E S = .ok (acc.reverse ++ xs.map g) S
  | [], n + 1, acc, _, _ => by
    unfold mLcGo
    simp [Wk.step]
  | x :: r, n + 1, acc, hn, h => by
    obtain ⟨E1, h1, h2, h3⟩ := h x (List.mem_cons_self ..)
    unfold mLcGo
    simp only [Wk.step, h1, h2, h3]
    rw [lcGo_items g S r n (g x :: acc) (Nat.lt_of_succ_lt_succ hn) fun y hy => h y (List.mem_cons_of_mem _ hy)]
    simp
end FX

set_option Elab.async false
set_option linter.all false
set_option maxRecDepth 100000
set_option maxHeartbeats 2000000
set_option autoImplicit false
/-! FP1: the dice that all laws share -/
namespace FX
open PySem PySem.Spec PyProof.Rows L2
namespace Dice
def b__law_dice : MS :=
  (mSeq (mSet 2 (mB fAdd (mB fMul (mC (.int 107)) (mV 1)) (mC (.int 53))))
    (mSeq (mIfS (mTB (mB fLt (mV 1) (mCall bLen (mCons (mV 0) mNil)))) (mSet 2 (mB fIx (mV 0) (mV 1))) mSkip)
    (mSeq (mSet 3 (mB fMod (mCall bInt (mCons (mCall bAbs (mCons (mV 2) mNil)) mNil)) (mB fPow (mB fPow (mC (.int 10)) (mC (.int 60))) (mC (.int 10)))))
    (mSeq (mSet 4 (mB fDiv (mV 3) (mB fPow (mC (.int 10)) (mC (.int 18)))))
    (mSeq (mSet 5 (mB fAdd (mB fAdd (mB fAdd (mB fMul (mB fMod (mV 3) (mC (.int 2147482589))) (mC (.int 60589))) (mB fMul (mC (.int 3559)) (mV 1))) (mB fMul (mC (.int 97)) (mCall bInt (mCons (mB fLt (mV 2) (mC (.int 0))) mNil)))) (mC (.int 131))))
    (mRet (mLst (mCons (mV 4) (mCons (mB fMod (mV 5) (mC (.int 2147482577))) (mCons (mC (.int 0)) mNil))))))))))
def m__law_dice : MF := mDef 6 b__law_dice
def b__law_roll : MS :=
  (mSeq (mSet 2 (mCall bInt (mCons (mV 1) mNil)))
    (mSeq (mIfS (mTB (mB fGt (mB fIx (mV 0) (mC (.int 0))) (mC (.int 0)))) (mSeq (mSet 3 (mB fMod (mB fIx (mV 0) (mC (.int 0))) (mV 2)))
    (mSeq (mPut (mV 0) (mC (.int 0)) (mB fDiv (mB fIx (mV 0) (mC (.int 0))) (mV 2)))
    (mRet (mCall bInt (mCons (mV 3) mNil))))) mSkip)
    (mSeq (mPut (mV 0) (mC (.int 2)) (mB fAdd (mB fIx (mV 0) (mC (.int 2))) (mC (.int 1))))
    (mSeq (mSet 4 (mB fMod (mB fAdd (mB fIx (mV 0) (mC (.int 1))) (mB fMul (mC (.int 1000393)) (mB fIx (mV 0) (mC (.int 2))))) (mC (.int 2305843009213693951))))
    (mSeq (mSet 5 (mB fAdd (mB fMul (mB fMod (mB fMul (mV 4) (mV 4)) (mC (.int 2305843009213693921))) (mV 4)) (mB fMul (mC (.int 9511)) (mB fIx (mV 0) (mC (.int 2))))))
    (mSeq (mSet 5 (mB fMod (mV 5) (mC (.int 2305843009213693907))))
    (mRet (mCall bInt (mCons (mB fMod (mB fDiv (mV 5) (mC (.int 4096))) (mV 2)) mNil)))))))))
def m__law_roll : MF := mDef 6 b__law_roll
def b__law_one_of : MS :=
  (mRet (mB fIx (mV 1) (mCallO m__law_roll (mCons (mV 0) (mCons (mCall bLen (mCons (mV 1) mNil)) mNil)))))
def m__law_one_of : MF := mDef 2 b__law_one_of
def At (S : Sto) (n : Nat) (k : Nat) : Prop := ∃ a b c : Int, S.get n = some (.lst [.int a, .int b, .int c]) ∧ 0 ≤ a ∧ 0 ≤ b ∧ b < 2147482577 ∧ 0 ≤ c ∧ c ≤ k
theorem At.keep {S S' : Sto} {n k : Nat} (h : At S n k) (e : Keep S S') : At S' n k := by
  obtain ⟨a, b, c, g, r⟩ := h
  exact ⟨a, b, c, e _ _ g, r⟩
/-- S' keeps the cells of S but n -/
def KeepBut (n : Nat) (S S' : Sto) : Prop := ∀ i o, i ≠ n → S.get i = some o → S'.get i = some o
theorem mulFit_small {i j : Int} (hi : i.natAbs < 2 ^ 100) (hj : j.natAbs < 2 ^ 100) : mulFit i j = true := by
  unfold mulFit
  have h1 : i.natAbs.log2 ≤ 100 := by
    by_cases h : i.natAbs = 0
    · rw [h]; decide
    · exact Nat.le_of_lt ((Nat.log2_lt h).mpr hi)
  have h2 : j.natAbs.log2 ≤ 100 := by
    by_cases h : j.natAbs = 0
    · rw [h]; decide
    · exact Nat.le_of_lt ((Nat.log2_lt h).mpr hj)
  exact Nat.ble_eq.mpr (by omega)
theorem divFit_of {j : Int} (h : 0 < j) (h2 : j < 2 ^ 63) : divFit j = true := by
  unfold divFit
  have h3 : j.natAbs.log2 ≤ 63 := Nat.le_of_lt ((Nat.log2_lt (by omega)).mpr (by omega))
  rw [decide_eq_true h]
  exact Nat.ble_eq.mpr (by omega)
theorem atI_of {α : Type} {xs : List α} {r : Int} (h : 0 ≤ r) (h2 : r < xs.length) : ∃ hlt : r.toNat < xs.length, atI xs r = some xs[r.toNat] := by
  have hlt : r.toNat < xs.length := by omega
  refine ⟨hlt, ?_⟩
  unfold L2.atI ixN
  rw [if_pos h, if_pos h2]
  exact List.getElem?_eq_getElem hlt
theorem roll_ok {S : Sto} {n k : Nat} (t : Int) (h : At S n k) (ht : 0 < t) (ht2 : t < 2 ^ 63) (hk : k < 2 ^ 40) :
    ∃ r S', m__law_roll [.ref n, .int t] S = .ok (.int r) S' ∧ 0 ≤ r ∧ r < t ∧ At S' n (k + 1) ∧ KeepBut n S S' ∧ S'.top = S.top := by
  obtain ⟨a, b, c, g, ha, hb, hb2, hc, hc2⟩ := h
  have hd := divFit_of ht ht2
  have hz : ¬ t = 0 := by omega
  have i0 : ∀ a b c : IV, L2.atI [a, b, c] 0 = some a := fun _ _ _ => rfl
  have i1 : ∀ a b c : IV, L2.atI [a, b, c] 1 = some b := fun _ _ _ => rfl
  have i2 : ∀ a b c : IV, L2.atI [a, b, c] 2 = some c := fun _ _ _ => rfl
  have x0 : ixN 3 0 = some 0 := rfl
  have x2 : ixN 3 2 = some 2 := rfl
  by_cases hp : 0 < a
  · refine ⟨a.fmod t, S.put n (.lst [.int (a / t), .int b, .int c]), ?_, ?_, ?_, ⟨a / t, b, c, get_put g, ?_, hb, hb2, hc, by omega⟩, fun i o hi h => by rw [get_put_ne g hi]; exact h, rfl⟩
    · simp [m__law_roll, b__law_roll, mDef, mSeq, mSet, mCall, mCons, mNil, mV, mC, mB, mIfS, mTB, fIx, itemsOf, g, i0, i1, i2, R.bind, R.to, bInt, fCmpI, hp, fMod, okI, hz, mPut, mRet, fPut, x0, fDiv, hd]
    · rw [Int.fmod_eq_emod_of_nonneg _ (by omega)]
      exact Int.emod_nonneg _ hz
    · rw [Int.fmod_eq_emod_of_nonneg _ (by omega)]
      exact Int.emod_lt_of_pos _ ht
    · exact Int.ediv_nonneg ha (by omega)
  · generalize ho : (b + 1000393 * (c + 1)).fmod 2305843009213693951 = one
    have h1 : 0 ≤ one ∧ one < 2305843009213693951 := by
      rw [← ho, Int.fmod_eq_emod_of_nonneg _ (by decide)]
      exact ⟨Int.emod_nonneg _ (by decide), Int.emod_lt_of_pos _ (by decide)⟩
    generalize hq : (one * one).fmod 2305843009213693921 = two
    have h2 : 0 ≤ two ∧ two < 2305843009213693921 := by
      rw [← hq, Int.fmod_eq_emod_of_nonneg _ (by decide)]
      exact ⟨Int.emod_nonneg _ (by decide), Int.emod_lt_of_pos _ (by decide)⟩
    have m1 : mulFit 1000393 (c + 1) = true := mulFit_small (by decide) (by omega)
    have m2 : mulFit one one = true := mulFit_small (by omega) (by omega)
    have m3 : mulFit two one = true := mulFit_small (by omega) (by omega)
    have m4 : mulFit 9511 (c + 1) = true := mulFit_small (by decide) (by omega)
    have d1 : divFit 4096 = true := by decide
    have g' : (S.put n (.lst [.int a, .int b, .int (c + 1)])).get n = some (.lst [.int a, .int b, .int (c + 1)]) := get_put g
    refine ⟨((two * one + 9511 * (c + 1)).fmod 2305843009213693907 / 4096).fmod t, S.put n (.lst [.int a, .int b, .int (c + 1)]), ?_, ?_, ?_, ⟨a, b, c + 1, g', ha, hb, hb2, by omega, by push_cast; omega⟩, fun i o hi h => by rw [get_put_ne g hi]; exact h, rfl⟩
    · simp [m__law_roll, b__law_roll, mDef, mSeq, mSet, mCall, mCons, mNil, mV, mC, mB, mIfS, mTB, fIx, itemsOf, g, g', i0, i1, i2, R.bind, R.to, bInt, fCmpI, hp, fMod, okI, hz, mPut, mRet, fPut, x2, fDiv, d1, mSkip, fAdd, fMul, m1, m2, m3, m4, ho, hq]
    · rw [Int.fmod_eq_emod_of_nonneg _ (by omega)]
      exact Int.emod_nonneg _ hz
    · rw [Int.fmod_eq_emod_of_nonneg _ (by omega)]
      exact Int.emod_lt_of_pos _ ht
theorem one_of_lst {S : Sto} {n m k : Nat} {xs : List IV} (h : At S n k) (hm : m ≠ n) (g : S.get m = some (.lst xs)) (hx : 0 < xs.length) (hx2 : xs.length < 2 ^ 20) (hk : k < 2 ^ 40) :
    ∃ v S', m__law_one_of [.ref n, .ref m] S = .ok v S' ∧ v ∈ xs ∧ At S' n (k + 1) ∧ KeepBut n S S' ∧ S'.top = S.top := by
  obtain ⟨r, S', e, h1, h2, h3, h4, h5⟩ := roll_ok (xs.length : Int) h (by omega) (by omega) hk
  have g' := h4 m _ hm g
  obtain ⟨hlt, ei⟩ := atI_of h1 h2
  refine ⟨xs[r.toNat]'hlt, S', ?_, List.getElem_mem hlt, h3, h4, h5⟩
  have hf : flatRs [IV.ref n, IV.int (xs.length : Int)] = false := rfl
  simp [m__law_one_of, b__law_one_of, mDef, mRet, mB, mCallO, mCall, mCons, mNil, mV, R.bind, R.to, bLen, itemsOf, g, own_cell hf, e, fIx, g', ei]
theorem one_of_tup {S : Sto} {n k : Nat} {xs : List IV} (h : At S n k) (hx : 0 < xs.length) (hx2 : xs.length < 2 ^ 20) (hk : k < 2 ^ 40) :
    ∃ v S', m__law_one_of [.ref n, .tup xs] S = .ok v S' ∧ v ∈ xs ∧ At S' n (k + 1) ∧ KeepBut n S S' ∧ S'.top = S.top := by
  obtain ⟨r, S', e, h1, h2, h3, h4, h5⟩ := roll_ok (xs.length : Int) h (by omega) (by omega) hk
  obtain ⟨hlt, ei⟩ := atI_of h1 h2
  refine ⟨xs[r.toNat]'hlt, S', ?_, List.getElem_mem hlt, h3, h4, h5⟩
  have hf : flatRs [IV.ref n, IV.int (xs.length : Int)] = false := rfl
  simp [m__law_one_of, b__law_one_of, mDef, mRet, mB, mCallO, mCall, mCons, mNil, mV, R.bind, R.to, bLen, itemsOf, own_cell hf, e, fIx, ei]
theorem dice_ok (ns : List Int) (at_ : Nat) (S : Sto) (hl : ns.length ≤ 63) (ha : at_ ≤ 63) : ∃ a b : Int, m__law_dice [.frz (ns.map IV.int), .int at_] S = .ok (.ref S.top) (S.new (.lst [.int a, .int b, .int 0])) ∧ 0 ≤ a ∧ 0 ≤ b ∧ b < 2147482577 := by
  obtain ⟨big, q1, hb⟩ : ∃ big : Int, mB fPow (mB fPow (mC (.int 10)) (mC (.int 60))) (mC (.int 10)) = mC (.int big) ∧ 0 < big := ⟨(10 ^ 60) ^ 10, funext fun _ => funext fun _ => rfl, by decide⟩
  have q2 : mB fPow (mC (.int 10)) (mC (.int 18)) = mC (.int 1000000000000000000) := funext fun _ => funext fun _ => rfl
  have d1 : divFit 1000000000000000000 = true := by decide
  have hbz : ¬ big = 0 := by omega
  have m1 : mulFit 107 at_ = true := mulFit_small (by decide) (by omega)
  have m2 : mulFit 3559 at_ = true := mulFit_small (by decide) (by omega)
  obtain ⟨cell, hc⟩ : ∃ cell : Int, (if (at_ : Int) < ns.length then L2.atI (ns.map IV.int) at_ = some (.int cell) else cell = 107 * at_ + 53) := by
    by_cases h : (at_ : Int) < ns.length
    · obtain ⟨hlt, ei⟩ := atI_of (xs := ns.map IV.int) (r := (at_ : Int)) (by omega) (by rw [List.length_map]; exact h)
      rw [List.getElem_map] at ei
      exact ⟨_, by rw [if_pos h]; exact ei⟩
    · exact ⟨107 * at_ + 53, by rw [if_neg h]⟩
  generalize hg : (if cell < 0 then -cell else cell).fmod big = great
  have hg1 : 0 ≤ great := by
    rw [← hg, Int.fmod_eq_emod_of_nonneg _ (by omega)]
    exact Int.emod_nonneg _ hbz
  generalize hr : great.fmod 2147482589 = rest
  have hr1 : 0 ≤ rest ∧ rest < 2147482589 := by
    rw [← hr, Int.fmod_eq_emod_of_nonneg _ (by decide)]
    exact ⟨Int.emod_nonneg _ (by decide), Int.emod_lt_of_pos _ (by decide)⟩
  have m3 : mulFit rest 60589 = true := mulFit_small (by omega) (by decide)
  have m4 : mulFit 97 (if cell < 0 then 1 else 0) = true := by split <;> decide
  have fl : fullLen 3 = true := by decide
  refine ⟨great / 1000000000000000000, (rest * 60589 + 3559 * at_ + 97 * (if cell < 0 then 1 else 0) + 131).fmod 2147482577, ?_, Int.ediv_nonneg hg1 (by decide), ?_, ?_⟩
  · by_cases h : (at_ : Int) < ns.length
    · rw [if_pos h] at hc
      unfold m__law_dice b__law_dice
      rw [q1, q2]
      simp [ mDef, mSeq, mSet, mCall, mCons, mNil, mV, mC, mB, mIfS, mTB, fIx, itemsOf, R.bind, R.to, bInt, bAbs, bLen, fCmpI, h, hc, fMod, okI, mRet, fDiv, mSkip, fAdd, fMul, hbz, d1, m1, m2, m3, m4, hg, hr, mLst, fl]
    · rw [if_neg h] at hc
      unfold m__law_dice b__law_dice
      rw [q1, q2]
      simp [ mDef, mSeq, mSet, mCall, mCons, mNil, mV, mC, mB, mIfS, mTB, fIx, itemsOf, R.bind, R.to, bInt, bAbs, bLen, fCmpI, h, ← hc, fMod, okI, mRet, fDiv, mSkip, fAdd, fMul, hbz, d1, m1, m2, m3, m4, hg, hr, mLst, fl]
  · rw [Int.fmod_eq_emod_of_nonneg _ (by decide)]
    exact Int.emod_nonneg _ (by decide)
  · rw [Int.fmod_eq_emod_of_nonneg _ (by decide)]
    exact Int.emod_lt_of_pos _ (by decide)
end Dice
end FX

set_option Elab.async false
set_option linter.all false
set_option maxRecDepth 100000
set_option maxHeartbeats 2000000
set_option autoImplicit false
/-! FP2: powers, greatest common divisors, exponents: functions that many laws share -/
namespace FX
open PySem PySem.Spec PyProof.Rows L2
namespace Ar
def b_power_of : MS :=
  (mSeq (mPar3 2 3 4 (mCons (mC (.int 1)) (mCons (mV 0) (mCons (mV 1) mNil))))
    (mSeq (mWhile (mTB (mB fGt (mV 4) (mC (.int 0)))) (mSeq (mIfS (mTB (mB fEq (mB fMod (mV 4) (mC (.int 2))) (mC (.int 1)))) (mSet 2 (mB fMul (mV 2) (mV 3))) mSkip)
    (mSeq (mSet 4 (mB fDiv (mV 4) (mC (.int 2))))
    (mSet 3 (mIf (mTB (mB fGt (mV 4) (mC (.int 0)))) (mB fMul (mV 3) (mV 3)) (mV 3))))) 100000)
    (mRet (mV 2))))
def m_power_of : MF := mDef 5 b_power_of
def b_exponent_in : MS :=
  (mSeq (mSet 2 (mC (.int 0)))
    (mSeq (mWhile (mTB (mB fEq (mB fMod (mV 1) (mV 0)) (mC (.int 0)))) (mSeq (mAug 1 fDivS (mV 0))
    (mAug 2 fAddI (mC (.int 1)))) 100000)
    (mRet (mV 2))))
def m_exponent_in : MF := mDef 3 b_exponent_in
def b_ratio_in : MS :=
  (mSeq (mSet 2 (mIf (mTB (mB fGt (mV 1) (mC (.int 0)))) (mCall bGcd (mCons (mV 0) (mCons (mV 1) mNil))) (mU fNeg (mCall bGcd (mCons (mV 0) (mCons (mV 1) mNil))))))
    (mRet (mTup (mCons (mB fDiv (mV 0) (mV 2)) (mCons (mB fDiv (mV 1) (mV 2)) mNil)))))
def m_ratio_in : MF := mDef 3 b_ratio_in
def b__law_power : MS :=
  (mSeq (mSet 2 (mC (.int 1)))
    (mSeq (mFor 1000000 (mWk fRange (mCons (mV 1) mNil)) (.name 3) (mSet 2 (mB fMul (mV 2) (mV 0))))
    (mRet (mV 2))))
def m__law_power : MF := mDef 4 b__law_power
def b__law_gcd : MS :=
  (mSeq (mPar 0 1 (mCons (mCall bAbs (mCons (mV 0) mNil)) (mCons (mCall bAbs (mCons (mV 1) mNil)) mNil)))
    (mSeq (mWhile (mTB (mB fGt (mV 1) (mC (.int 0)))) (mPar 0 1 (mCons (mV 1) (mCons (mB fMod (mV 0) (mV 1)) mNil))) 100000)
    (mRet (mV 0))))
def m__law_gcd : MF := mDef 2 b__law_gcd
def b__law_lowest : MS :=
  (mSeq (mSet 2 (mCallO m__law_gcd (mCons (mV 0) (mCons (mV 1) mNil))))
    (mSeq (mIfS (mTB (mB fLt (mV 1) (mC (.int 0)))) (mSet 2 (mB fSub (mC (.int 0)) (mV 2))) mSkip)
    (mRet (mTup (mCons (mB fDiv (mV 0) (mV 2)) (mCons (mB fDiv (mV 1) (mV 2)) mNil))))))
def m__law_lowest : MF := mDef 3 b__law_lowest
def b__law_exponent : MS :=
  (mSeq (mPar 2 3 (mCons (mC (.int 0)) (mCons (mV 1) mNil)))
    (mSeq (mWhile (mTB (mB fEq (mB fMod (mV 3) (mV 0)) (mC (.int 0)))) (mPar 3 2 (mCons (mB fDiv (mV 3) (mV 0)) (mCons (mB fAdd (mV 2) (mC (.int 1))) mNil))) 100000)
    (mRet (mV 2))))
def m__law_exponent : MF := mDef 4 b__law_exponent

theorem mDef_rt {n : Nat} {b : MS} {as : List IV} {E : Env'} {S S' : Sto} {v : IV} (hE : as.map some ++ List.replicate (n - as.length) none = E) (h : b E S = .rt v S') : mDef n b as S = .ok v S' := by
  subst hE
  unfold mDef
  rw [h]
theorem mSeq_nx {a b : MS} {E E1 : Env'} {S S1 : Sto} (h : a E S = .nx E1 S1) : mSeq a b E S = b E1 S1 := by
  unfold mSeq
  rw [h]
theorem mFor_range1 {m : ME} {tg : Tg} {b : MS} {N n : Nat} {E : Env'} {S : Sto} (h : m E S = .ok (.int n) S) (hn : n < 2 ^ 60) : mFor N (mWk fRange (mCons m mNil)) tg b E S = mForGo tg b N (.items (rangeI 0 n)) E S := by
  have h62 : in62 (n : Int) = true := by
    unfold in62
    rw [Bool.and_eq_true]
    exact ⟨decide_eq_true (by omega), decide_eq_true (by omega)⟩
  unfold mFor mWk
  simp only [mCons, mNil, h, R.bind, R.to, fRange, h62, cond_true, Int.toNat_natCast]
theorem mulFit_of {i j : Int} {a b : Nat} (hi : i.natAbs < 2 ^ a) (hj : j.natAbs < 2 ^ b) (h : a + b < 1000000) : mulFit i j = true := by
  unfold mulFit
  have h1 : i.natAbs.log2 ≤ a := by
    by_cases h : i.natAbs = 0
    · rw [h]; exact Nat.zero_le _
    · exact Nat.le_of_lt ((Nat.log2_lt h).mpr hi)
  have h2 : j.natAbs.log2 ≤ b := by
    by_cases h : j.natAbs = 0
    · rw [h]; exact Nat.zero_le _
    · exact Nat.le_of_lt ((Nat.log2_lt h).mpr hj)
  exact Nat.ble_eq.mpr (by omega)
theorem divFit_of {j : Int} {a : Nat} (h : 0 < j) (h2 : j.natAbs < 2 ^ a) (ha : a < 9000) : divFit j = true := by
  unfold divFit
  have h3 : j.natAbs.log2 < a := (Nat.log2_lt (by omega)).mpr h2
  rw [decide_eq_true h]
  exact Nat.ble_eq.mpr (by omega)
theorem fmod_cast (a b : Nat) : (a : Int).fmod (b : Int) = ((a % b : Nat) : Int) := by
  rw [Int.fmod_eq_emod_of_nonneg _ (Int.natCast_nonneg b)]
  rfl
theorem div_cast (a b : Nat) : (a : Int) / (b : Int) = ((a / b : Nat) : Int) := rfl
def pb : MS := mSeq (mIfS (mTB (mB fEq (mB fMod (mV 4) (mC (.int 2))) (mC (.int 1)))) (mSet 2 (mB fMul (mV 2) (mV 3))) mSkip) (mSeq (mSet 4 (mB fDiv (mV 4) (mC (.int 2)))) (mSet 3 (mIf (mTB (mB fGt (mV 4) (mC (.int 0)))) (mB fMul (mV 3) (mV 3)) (mV 3))))
theorem pb_ok (b n f s l l2 r f' s' : Int) (S : Sto) (hd : l / 2 = l2) (hr : l.fmod 2 = r) (h1 : r = 1 → mulFit f s = true) (h2 : 0 < l2 → mulFit s s = true) (hf : f' = if r = 1 then f * s else f) (hs : s' = if 0 < l2 then s * s else s) :
    pb [some (.int b), some (.int n), some (.int f), some (.int s), some (.int l)] S = .nx [some (.int b), some (.int n), some (.int f'), some (.int s'), some (.int l2)] S := by
  have d2 : divFit 2 = true := by decide
  subst hf hs
  by_cases c1 : r = 1 <;> by_cases c2 : 0 < l2
  · simp [pb, mSeq, mIfS, mTB, mB, mV, mC, R.bind, R.to, fCmpI, fMod, okI, hr, fEq, eqIV, mSkip, mSet, fDiv, d2, hd, mIf, c1, c2, h1 c1, h2 c2, fMul]
  · simp [pb, mSeq, mIfS, mTB, mB, mV, mC, R.bind, R.to, fCmpI, fMod, okI, hr, fEq, eqIV, mSkip, mSet, fDiv, d2, hd, mIf, c1, c2, h1 c1, fMul]
  · simp [pb, mSeq, mIfS, mTB, mB, mV, mC, R.bind, R.to, fCmpI, fMod, okI, hr, fEq, eqIV, mSkip, mSet, fDiv, d2, hd, mIf, c1, c2, h2 c2, fMul]
  · simp [pb, mSeq, mIfS, mTB, mB, mV, mC, R.bind, R.to, fCmpI, fMod, okI, hr, fEq, eqIV, mSkip, mSet, fDiv, d2, hd, mIf, c1, c2, fMul]
theorem power_of_ok (b n M : Nat) (S : Sto) (hb : 1 ≤ b) (hM : b ^ n < 2 ^ M) (hM2 : M < 400000) (hn : n < 90000) : m_power_of [.int b, .int n] S = .ok (.int ((b ^ n : Nat) : Int)) S := by
  have key := while_inv (t := mTB (mB fGt (mV 4) (mC (.int 0)))) (b := pb)
    (fun k E S' => ∃ f s l : Nat, E = [some (.int b), some (.int n), some (.int f), some (.int s), some (.int l)] ∧ S' = S ∧ k = l ∧ f * s ^ l = b ^ n ∧ 1 ≤ f ∧ 1 ≤ s)
    (fun E S' => S' = S ∧ ∃ s l : Nat, E = [some (.int b), some (.int n), some (.int ((b ^ n : Nat) : Int)), some (.int s), some (.int l)]) ?_ 100000 n
    [some (.int b), some (.int n), some (.int (1 : Nat)), some (.int b), some (.int n)] S (by omega) ⟨1, b, n, rfl, rfl, rfl, by simp, by omega, hb⟩
  · obtain ⟨E', S', e, rfl, s, l, rfl⟩ := key
    have e0 : b_power_of [some (.int b), some (.int n), none, none, none] S' = .rt (.int ((b ^ n : Nat) : Int)) S' := by
      show mSeq (mWhile (mTB (mB fGt (mV 4) (mC (.int 0)))) pb 100000) (mRet (mV 2)) [some (.int b), some (.int n), some (.int (1 : Nat)), some (.int b), some (.int n)] S' = _
      unfold mSeq
      rw [e]
      rfl
    show (match b_power_of [some (.int b), some (.int n), none, none, none] S' with | .nx _ S' => _ | .rt v S' => _ | .ex e _ S' => _ | _ => _) = _
    rw [e0]
  · intro k E S' ⟨f, s, l, hE, hS, hk, hf, h1, h2⟩
    subst hE hS
    replace hk := hk.symm
    subst hk
    have ht : ∀ x : Int, mTB (mB fGt (mV 4) (mC (.int 0))) [some (.int b), some (.int n), some (.int f), some (.int s), some (.int x)] S' = .ok (decide (0 < x)) S' := fun _ => rfl
    by_cases hl : l = 0
    · subst hl
      left
      refine ⟨S', by rw [ht]; rfl, rfl, s, 0, ?_⟩
      rw [← hf, Nat.pow_zero, Nat.mul_one]
    · right
      have hs1 : s ≤ s ^ l := Nat.le_self_pow hl s
      have hfs : f * s ≤ b ^ n := by rw [← hf]; exact Nat.mul_le_mul_left _ hs1
      have hsM : s < 2 ^ M := Nat.lt_of_le_of_lt (Nat.le_trans (Nat.le_mul_of_pos_left s h1) hfs) hM
      have hfM : f < 2 ^ M := Nat.lt_of_le_of_lt (Nat.le_trans (Nat.le_mul_of_pos_right f h2) hfs) hM
      have m1 : mulFit (f : Int) (s : Int) = true := mulFit_of (a := M) (b := M) (by simpa using hfM) (by simpa using hsM) (by omega)
      have m2 : mulFit (s : Int) (s : Int) = true := mulFit_of (a := M) (b := M) (by simpa using hsM) (by simpa using hsM) (by omega)
      have hs3 : s ^ l = (if l % 2 = 1 then s else 1) * (s * s) ^ (l / 2) := by
        have : l = 2 * (l / 2) + l % 2 := by omega
        conv => lhs; rw [this, Nat.pow_add, Nat.pow_mul]
        rcases Nat.mod_two_eq_zero_or_one l with h | h <;> simp [h, Nat.mul_comm, Nat.pow_two]
      refine ⟨S', [some (.int b), some (.int n), some (.int ((if l % 2 = 1 then f * s else f : Nat) : Int)), some (.int ((if 0 < l / 2 then s * s else s : Nat) : Int)), some (.int ((l / 2 : Nat) : Int))], S', l / 2, ?_, ?_, by omega, _, _, _, rfl, rfl, rfl, ?_, ?_, ?_⟩
      · rw [ht, decide_eq_true (by omega)]
      · refine pb_ok _ _ _ _ _ _ ((l % 2 : Nat) : Int) _ _ S' (div_cast l 2) (fmod_cast l 2) (fun _ => m1) (fun _ => m2) ?_ ?_
        · rcases Nat.mod_two_eq_zero_or_one l with h | h <;> simp [h]
        · by_cases h : 0 < l / 2
          · rw [if_pos h, if_pos (by omega)]
            exact Int.natCast_mul s s
          · rw [if_neg h, if_neg (by omega)]
      · rw [← hf, hs3]
        have hq : (if 0 < l / 2 then s * s else s) ^ (l / 2) = (s * s) ^ (l / 2) := by
          by_cases h : 0 < l / 2
          · rw [if_pos h]
          · rw [Nat.eq_zero_of_not_pos h]; simp
        rw [hq]
        rcases Nat.mod_two_eq_zero_or_one l with h | h <;> simp [h, Nat.mul_assoc]
      · split
        · exact Nat.mul_pos h1 h2
        · exact h1
      · split
        · exact Nat.mul_pos h2 h2
        · exact h2

/-! ### a power, turn by turn -/
theorem lpow_ok (b n M : Nat) (S : Sto) (hb : 1 ≤ b) (hM : b ^ n < 2 ^ M) (hM2 : M < 400000) (hn : n < 90000) : m__law_power [.int b, .int n] S = .ok (.int ((b ^ n : Nat) : Int)) S := by
  have hlen : ∀ (k : Nat) (i : Int), (rangeI i k).length = k := by
    intro k
    induction k with
    | zero => intro i; rfl
    | succ k ih => intro i; exact congrArg (· + 1) (ih (i + 1))
  have key := forGo_items (tg := .name 3) (b := mSet 2 (mB fMul (mV 2) (mV 0)))
    (fun r E S' => ∃ (f : Nat) (fi : Int) (x : Option IV), fi = f ∧ E = [some (.int b), some (.int n), some (.int fi), x] ∧ S' = S ∧ f * b ^ r.length = b ^ n) ?_ (rangeI 0 n) 1000000 [some (.int b), some (.int n), some (.int 1), none] S (by rw [hlen]; omega) ⟨1, 1, none, rfl, rfl, rfl, by rw [hlen]; simp⟩
  · generalize hN : 1000000 = N at key
    obtain ⟨E', S', e, f, fi, x, h0, h1, h3, h2⟩ := key
    have h4 : f = b ^ n := by simpa using h2
    subst h4 h0 h3 h1
    have e1 : mFor N (mWk fRange (mCons (mV 1) mNil)) (.name 3) (mSet 2 (mB fMul (mV 2) (mV 0))) [some (.int b), some (.int n), some (.int 1), none] S' = .nx [some (.int b), some (.int n), some (.int ((b ^ n : Nat) : Int)), x] S' := by
      rw [mFor_range1 (n := n) rfl (by omega)]
      exact e
    refine mDef_rt (E := [some (.int b), some (.int n), none, none]) rfl ?_
    unfold b__law_power
    rw [hN]
    refine (mSeq_nx (a := mSet 2 (mC (.int 1))) (E1 := [some (.int b), some (.int n), some (.int 1), none]) (S1 := S') rfl).trans ?_
    rw [mSeq_nx e1]
    rfl
  · rintro x r E S' ⟨f, fi, y, rfl, rfl, rfl, h⟩
    have hp : b ≤ b ^ (x :: r).length := Nat.le_self_pow (by simp) b
    have hb0 : 0 < b ^ (x :: r).length := Nat.pow_pos hb
    have hfb : f * b ≤ b ^ n := by rw [← h]; exact Nat.mul_le_mul_left _ hp
    have hpos : 0 < b ^ n := Nat.pow_pos hb
    have hf1 : 1 ≤ f := by
      rcases Nat.eq_zero_or_pos f with z | z
      · rw [z, Nat.zero_mul] at h; omega
      · exact z
    have m : mulFit (f : Int) (b : Int) = true := mulFit_of (a := M) (b := M) (by simpa using Nat.lt_of_le_of_lt (Nat.le_trans (Nat.le_mul_of_pos_right f hb) hfb) hM) (by simpa using Nat.lt_of_le_of_lt (Nat.le_trans (Nat.le_mul_of_pos_left b hf1) hfb) hM) (by omega)
    refine ⟨_, [some (.int b), some (.int n), some (.int ((f * b : Nat) : Int)), some x], S', rfl, ?_, f * b, _, some x, rfl, rfl, rfl, ?_⟩
    · show R.to (okI (mulFit (f : Int) (b : Int)) ((f : Int) * (b : Int)) S') _ _ = _
      rw [m]
      rfl
    · rw [← h, List.length_cons, Nat.pow_succ, Nat.mul_assoc, Nat.mul_comm b]
/-! ### greatest common divisors -/
theorem natAbs_if (i : Int) : (if i < 0 then -i else i) = (i.natAbs : Int) := by
  split <;> omega
theorem lgcd_ok (x y : Int) (M : Nat) (S : Sto) (hx : x.natAbs < 2 ^ M) (hy : y.natAbs < 2 ^ M) (hM : M < 40000) : m__law_gcd [.int x, .int y] S = .ok (.int ((Nat.gcd x.natAbs y.natAbs : Nat) : Int)) S := by
  have key := while_inv (t := mTB (mB fGt (mV 1) (mC (.int 0)))) (b := mPar 0 1 (mCons (mV 1) (mCons (mB fMod (mV 0) (mV 1)) mNil)))
    (fun k E S' => ∃ a b : Nat, E = [some (.int a), some (.int b)] ∧ S' = S ∧ Nat.gcd a b = Nat.gcd x.natAbs y.natAbs ∧ ((b ≤ a ∧ a * b < 2 ^ k) ∨ ∃ k', k = k' + 1 ∧ a * b < 2 ^ k'))
    (fun E S' => S' = S ∧ ∃ b : Int, E = [some (.int ((Nat.gcd x.natAbs y.natAbs : Nat) : Int)), some (.int b)]) ?_ 100000 (2 * M + 1) [some (.int (x.natAbs : Int)), some (.int (y.natAbs : Int))] S (by omega)
    ⟨_, _, rfl, rfl, rfl, .inr ⟨2 * M, rfl, by rw [Nat.two_mul, Nat.pow_add]; exact Nat.mul_lt_mul'' hx hy⟩⟩
  · obtain ⟨E', S', e, rfl, b, rfl⟩ := key
    have e0 : b__law_gcd [some (.int x), some (.int y)] S' = .rt (.int ((Nat.gcd x.natAbs y.natAbs : Nat) : Int)) S' := by
      show mSeq (mWhile (mTB (mB fGt (mV 1) (mC (.int 0)))) (mPar 0 1 (mCons (mV 1) (mCons (mB fMod (mV 0) (mV 1)) mNil))) 100000) (mRet (mV 0)) [some (.int (if x < 0 then -x else x)), some (.int (if y < 0 then -y else y))] S' = _
      rw [natAbs_if, natAbs_if]
      unfold mSeq
      rw [e]
      rfl
    show (match b__law_gcd [some (.int x), some (.int y)] S' with | .nx _ S' => _ | .rt v S' => _ | .ex e _ S' => _ | _ => _) = _
    rw [e0]
  · rintro k E S' ⟨a, b, rfl, rfl, hg, hk⟩
    by_cases hb : b = 0
    · subst hb
      left
      refine ⟨S', rfl, rfl, 0, ?_⟩
      rw [Nat.gcd_zero_right] at hg
      rw [← hg]
      rfl
    · right
      have hz : ¬ ((b : Int) = 0) := by omega
      have ht : mTB (mB fGt (mV 1) (mC (.int 0))) [some (.int a), some (.int b)] S' = .ok (decide ((0 : Int) < b)) S' := rfl
      have hs : mPar 0 1 (mCons (mV 1) (mCons (mB fMod (mV 0) (mV 1)) mNil)) [some (.int a), some (.int b)] S' = .nx [some (.int b), some (.int ((a % b : Nat) : Int))] S' := by
        have hm : fMod (.int a) (.int b) S' = .ok (.int ((a % b : Nat) : Int)) S' := by
          show okI (!decide ((b : Int) = 0)) ((a : Int).fmod b) S' = _
          rw [decide_eq_false hz, fmod_cast]
          rfl
        simp only [mPar, mCons, mNil, mB, mV, R.bind, List.getElem?_cons_zero, List.getElem?_cons_succ, hm]
        rfl
      have hg' : Nat.gcd b (a % b) = Nat.gcd x.natAbs y.natAbs := by rw [← hg, Nat.gcd_comm a b, Nat.gcd_rec b a, Nat.gcd_comm]
      have hab : 1 ≤ b := by omega
      have hr := Nat.mod_lt a hab
      rcases hk with ⟨h1, h2⟩ | ⟨k', rfl, h2⟩
      · have h3 : 2 * (a % b) < a := by
          have hd := Nat.div_add_mod a b
          have hq : 1 ≤ a / b := Nat.div_pos h1 hab
          have : b * 1 ≤ b * (a / b) := Nat.mul_le_mul_left b hq
          omega
        cases k with
        | zero =>
          have : 1 ≤ a * b := Nat.mul_pos (by omega) hab
          omega
        | succ k =>
          refine ⟨S', _, S', k, by rw [ht, decide_eq_true (by omega)], hs, Nat.lt_succ_self k, b, a % b, rfl, rfl, hg', .inl ⟨by omega, ?_⟩⟩
          have h4 : b * (2 * (a % b)) < b * a := Nat.mul_lt_mul_of_pos_left h3 hab
          rw [Nat.mul_comm a b, Nat.pow_succ] at h2
          have h5 : b * (2 * (a % b)) = b * (a % b) * 2 := by rw [Nat.mul_comm 2, Nat.mul_assoc]
          omega
      · refine ⟨S', _, S', k', by rw [ht, decide_eq_true (by omega)], hs, Nat.lt_succ_self k', b, a % b, rfl, rfl, hg', .inl ⟨by omega, ?_⟩⟩
        refine Nat.lt_of_le_of_lt ?_ h2
        rw [Nat.mul_comm a b]
        exact Nat.mul_le_mul_left _ (Nat.mod_le a b)
theorem lowest_ok (x y M : Nat) (S : Sto) (hx : x < 2 ^ M) (hy : y < 2 ^ M) (hp : 0 < y) (hM : M < 8000) : m__law_lowest [.int x, .int y] S = .ok (.tup [.int ((x / Nat.gcd x y : Nat) : Int), .int ((y / Nat.gcd x y : Nat) : Int)]) S := by
  have hg := lgcd_ok x y M ⟨0, []⟩ hx hy (by omega)
  have hg2 := own_flat (as := [.int x, .int y]) rfl hg rfl S
  have hgp : 0 < Nat.gcd x y := Nat.gcd_pos_of_pos_right x hp
  have hgl : Nat.gcd x y < 2 ^ M := Nat.lt_of_le_of_lt (Nat.gcd_le_right x hp) hy
  have hd : divFit ((Nat.gcd x y : Nat) : Int) = true := divFit_of (a := M) (by omega) (by simpa using hgl) (by omega)
  have hn : ¬ ((y : Int) < 0) := by omega
  simp only [Int.natAbs_natCast] at hg2
  generalize hgg : Nat.gcd x y = g at *
  rw [← div_cast, ← div_cast]
  generalize (g : Int) = gi at *
  generalize (x : Int) = xi at *
  generalize (y : Int) = yi at *
  have fl : fullLen 2 = true := by decide
  simp [m__law_lowest, b__law_lowest, mDef, mSeq, mSet, mCallO, mCons, mNil, mV, mC, R.bind, R.to, hg2, mIfS, mTB, mB, fCmpI, hn, mSkip, mRet, mTup, fDiv, hd, fl]
theorem ratio_ok (x y M : Nat) (S : Sto) (hx : x < 2 ^ M) (hy : y < 2 ^ M) (hp : 0 < y) (hM : M < 8000) : m_ratio_in [.int x, .int y] S = .ok (.tup [.int ((x / Nat.gcd x y : Nat) : Int), .int ((y / Nat.gcd x y : Nat) : Int)]) S := by
  have hgp : 0 < Nat.gcd x y := Nat.gcd_pos_of_pos_right x hp
  have hgl : Nat.gcd x y < 2 ^ M := Nat.lt_of_le_of_lt (Nat.gcd_le_right x hp) hy
  have hd : divFit ((Nat.gcd x y : Nat) : Int) = true := divFit_of (a := M) (by omega) (by simpa using hgl) (by omega)
  have hn : (0 : Int) < (y : Int) := by omega
  have hg2 : bGcd [.int x, .int y] S = .ok (.int ((Nat.gcd x y : Nat) : Int)) S := rfl
  generalize hgg : Nat.gcd x y = g at *
  rw [← div_cast, ← div_cast]
  generalize (g : Int) = gi at *
  generalize (x : Int) = xi at *
  generalize (y : Int) = yi at *
  have fl : fullLen 2 = true := by decide
  simp [m_ratio_in, b_ratio_in, mDef, mSeq, mSet, mCall, mCons, mNil, mV, mC, R.bind, R.to, hg2, mIf, mTB, mB, fCmpI, hn, mSkip, mRet, mTup, fDiv, hd, fl]
/-! ### exponents -/
def expoF : Nat → Nat → Nat → Nat
  | 0, _, _ => 0
  | k + 1, p, n => if n % p = 0 then expoF k p (n / p) + 1 else 0
def expo (p n : Nat) : Nat := expoF (n.log2 + 1) p n
theorem lexp_ok (p : Nat) (n : Nat) (S : Sto) (hp : 2 ≤ p) (hn : n ≠ 0) (hM : n.log2 < 40000) (hp2 : p < 2 ^ 8000) : m__law_exponent [.int p, .int n] S = .ok (.int (expo p n : Int)) S := by
  have key := while_inv (t := mTB (mB fEq (mB fMod (mV 3) (mV 0)) (mC (.int 0)))) (b := mPar 3 2 (mCons (mB fDiv (mV 3) (mV 0)) (mCons (mB fAdd (mV 2) (mC (.int 1))) mNil)))
    (fun k E S' => ∃ m v : Nat, E = [some (.int p), some (.int n), some (.int v), some (.int m)] ∧ S' = S ∧ m ≠ 0 ∧ m < 2 ^ k ∧ v + expoF k p m = expo p n)
    (fun E S' => S' = S ∧ ∃ m : Nat, E = [some (.int p), some (.int n), some (.int (expo p n : Int)), some (.int m)]) ?_ 100000 (n.log2 + 1) [some (.int p), some (.int n), some (.int (0 : Nat)), some (.int n)] S (by omega)
    ⟨n, 0, rfl, rfl, hn, (Nat.log2_lt hn).mp (Nat.lt_succ_self _), Nat.zero_add _⟩
  · obtain ⟨E', S', e, rfl, m, rfl⟩ := key
    have e0 : b__law_exponent [some (.int p), some (.int n), none, none] S' = .rt (.int (expo p n : Int)) S' := by
      show mSeq (mWhile (mTB (mB fEq (mB fMod (mV 3) (mV 0)) (mC (.int 0)))) (mPar 3 2 (mCons (mB fDiv (mV 3) (mV 0)) (mCons (mB fAdd (mV 2) (mC (.int 1))) mNil))) 100000) (mRet (mV 2)) [some (.int p), some (.int n), some (.int (0 : Nat)), some (.int n)] S' = _
      unfold mSeq
      rw [e]
      rfl
    show (match b__law_exponent [some (.int p), some (.int n), none, none] S' with | .nx _ S' => _ | .rt v S' => _ | .ex e _ S' => _ | _ => _) = _
    rw [e0]
  · rintro k E S' ⟨m, v, rfl, rfl, hm, hk, hv⟩
    have hz : ¬ ((p : Int) = 0) := by omega
    have hM : fMod (.int m) (.int p) S' = .ok (.int ((m % p : Nat) : Int)) S' := by
      show okI (!decide ((p : Int) = 0)) ((m : Int).fmod p) S' = _
      rw [decide_eq_false hz, fmod_cast]
      rfl
    have ht : mTB (mB fEq (mB fMod (mV 3) (mV 0)) (mC (.int 0))) [some (.int p), some (.int n), some (.int v), some (.int m)] S' = .ok (decide (((m % p : Nat) : Int) = 0)) S' := by
      simp only [mTB, mB, mV, mC, R.bind, List.getElem?_cons_zero, List.getElem?_cons_succ, hM]
      rfl
    cases k with
    | zero => exact absurd hk (by omega)
    | succ k =>
      by_cases h0 : m % p = 0
      · right
        have hdf : divFit (p : Int) = true := divFit_of (a := 8000) (by omega) (by simpa using hp2) (by omega)
        refine ⟨S', [some (.int p), some (.int n), some (.int ((v + 1 : Nat) : Int)), some (.int ((m / p : Nat) : Int))], S', k, by rw [ht, h0]; rfl, ?_, Nat.lt_succ_self k, m / p, v + 1, rfl, rfl, ?_, ?_, ?_⟩
        · have hD : fDiv (.int m) (.int p) S' = .ok (.int ((m / p : Nat) : Int)) S' := by
            show (bif divFit (p : Int) then _ else _) = _
            rw [hdf]
            rfl
          simp only [mPar, mCons, mNil, mB, mV, R.bind, List.getElem?_cons_zero, List.getElem?_cons_succ, hD]
          rfl
        · intro z
          have := Nat.div_add_mod m p
          rw [z, h0, Nat.mul_zero] at this
          omega
        · have h5 : m / p ≤ m / 2 := Nat.div_le_div_left hp (by decide)
          rw [Nat.pow_succ] at hk
          omega
        · rw [← hv]
          show v + 1 + expoF k p (m / p) = v + (if m % p = 0 then expoF k p (m / p) + 1 else 0)
          rw [if_pos h0]
          omega
      · left
        refine ⟨S', by rw [ht, decide_eq_false (by omega)], rfl, m, ?_⟩
        have : v = expo p n := by
          rw [← hv]
          show v = v + (if m % p = 0 then expoF k p (m / p) + 1 else 0)
          rw [if_neg h0]
          rfl
        rw [this]
end Ar
end FX

set_option Elab.async false
set_option linter.all false
set_option maxRecDepth 100000
set_option maxHeartbeats 2000000
set_option autoImplicit false
/-! FP3: equality of rows of integers, ranges, sums, small blocks -/
namespace FX
open PySem PySem.Spec PyProof.Rows L2
theorem toDs_ints (S : Sto) : ∀ (l : List Int) (n : Nat), l.length + 1 < n → toDs S n (l.map IV.int) = some (l.map PyData.int)
  | [], n + 1, _ => rfl
  | i :: l, n + 2, h => by
    have e := toDs_ints S l (n + 1) (by simp at h; omega)
    show (match toD S (n + 1) (IV.int i) with | some d => (match toDs S (n + 1) (l.map IV.int) with | some ds => some (d :: ds) | none => none) | none => none) = _
    rw [e]
    rfl
theorem lay_ints : ∀ l : List Int, PyData.canLayAll0 (l.map PyData.int) = true
  | [] => rfl
  | i :: l => by
    show (PyData.canLay0 (.int i) && PyData.canLayAll0 (l.map PyData.int)) = true
    rw [lay_ints l]
    rfl
theorem dep_ints : ∀ l : List Int, PyData.depthAll (l.map PyData.int) = 0
  | [] => rfl
  | i :: l => by
    show max (PyData.depth (.int i)) (PyData.depthAll (l.map PyData.int)) = 0
    rw [dep_ints l]
    rfl
theorem eqv_ints : ∀ l l' : List Int, PyData.eqvAll (l.map PyData.int) (l'.map PyData.int) = decide (l = l')
  | [], [] => rfl
  | [], _ :: _ => rfl
  | _ :: _, [] => rfl
  | i :: l, j :: l' => by
    show ((i == j) && PyData.eqvAll (l.map PyData.int) (l'.map PyData.int)) = _
    rw [eqv_ints l l']
    by_cases h : i = j <;> by_cases h2 : l = l' <;> simp [h, h2]
theorem fuelD_eq : fuelD = 1000000 := rfl
theorem data_tup (S : Sto) (l : List Int) (h : l.length < 900000) : dataOf S (.tup (l.map IV.int)) = some (.tuple (l.map PyData.int)) := by
  have e : toD S fuelD (.tup (l.map IV.int)) = some (.tuple (l.map PyData.int)) := by
    rw [fuelD_eq]
    show (toDs S 999999 (l.map IV.int)).map PyData.tuple = _
    rw [toDs_ints S l 999999 (by omega)]
    rfl
  have s : SeqAt.shaped (.tuple (l.map PyData.int)) = true := by
    have h1 : PyData.canLay0 (.tuple (l.map PyData.int)) = true := lay_ints l
    have h2 : PyData.depth (.tuple (l.map PyData.int)) = 0 + 1 := congrArg (· + 1) (dep_ints l)
    show (PyData.canLay0 _ && decide (PyData.depth _ ≤ 64)) = true
    rw [h1, h2]
    rfl
  unfold dataOf
  rw [e]
  show (bif SeqAt.shaped _ then _ else _) = _
  rw [s]
  rfl
theorem data_lst (S : Sto) (n : Nat) (l : List Int) (g : S.get n = some (.lst (l.map IV.int))) (h : l.length < 900000) : dataOf S (.ref n) = some (.list (l.map PyData.int)) := by
  have e : toD S fuelD (.ref n) = some (.list (l.map PyData.int)) := by
    rw [fuelD_eq]
    show (match S.get n with | some (.lst xs) => (toDs S 999999 xs).map PyData.list | none => none) = _
    rw [g]
    show (toDs S 999999 (l.map IV.int)).map PyData.list = _
    rw [toDs_ints S l 999999 (by omega)]
    rfl
  have s : SeqAt.shaped (.list (l.map PyData.int)) = true := by
    have h1 : PyData.canLay0 (.list (l.map PyData.int)) = true := lay_ints l
    have h2 : PyData.depth (.list (l.map PyData.int)) = 0 + 1 := congrArg (· + 1) (dep_ints l)
    show (PyData.canLay0 _ && decide (PyData.depth _ ≤ 64)) = true
    rw [h1, h2]
    rfl
  unfold dataOf
  rw [e]
  show (bif SeqAt.shaped _ then _ else _) = _
  rw [s]
  rfl
theorem eqIV_tup (S : Sto) (l l' : List Int) (h : l.length < 900000) (h' : l'.length < 900000) : eqIV S (.tup (l.map IV.int)) (.tup (l'.map IV.int)) = some (decide (l = l')) := by
  show (match dataOf S _, dataOf S _ with | some d, some e => some (PyData.eqv d e) | _, _ => none) = _
  rw [data_tup S l h, data_tup S l' h']
  show some (PyData.eqvAll _ _) = _
  rw [eqv_ints]
theorem eqIV_lst (S : Sto) (n m : Nat) (l l' : List Int) (g : S.get n = some (.lst (l.map IV.int))) (g' : S.get m = some (.lst (l'.map IV.int))) (h : l.length < 900000) (h' : l'.length < 900000) : eqIV S (.ref n) (.ref m) = some (decide (l = l')) := by
  show (match dataOf S _, dataOf S _ with | some d, some e => some (PyData.eqv d e) | _, _ => none) = _
  rw [data_lst S n l g h, data_lst S m l' g' h']
  show some (PyData.eqvAll _ _) = _
  rw [eqv_ints]
/-! ### ranges -/
theorem len_rangeI : ∀ (k : Nat) (i : Int), (rangeI i k).length = k
  | 0, _ => rfl
  | k + 1, i => congrArg (· + 1) (len_rangeI k (i + 1))
theorem mem_rangeI : ∀ (k : Nat) (i : Int) (x : IV), x ∈ rangeI i k → ∃ m : Nat, x = .int (i + m) ∧ m < k
  | k + 1, i, x, h => by
    rcases List.mem_cons.mp h with rfl | h
    · exact ⟨0, by simp, by omega⟩
    · obtain ⟨m, rfl, hm⟩ := mem_rangeI k (i + 1) x h
      exact ⟨m + 1, by congr 1; push_cast; omega, by omega⟩
theorem in62_of {n : Int} (h : -(2 ^ 60) < n) (h2 : n < 2 ^ 60) : in62 n = true := by
  unfold in62
  rw [Bool.and_eq_true]
  exact ⟨decide_eq_true (by omega), decide_eq_true (by omega)⟩
theorem mWk_range2 {m1 m2 : ME} {i j : Int} {E : Env'} {S S1 S2 : Sto} (h : m1 E S = .ok (.int i) S1) (h' : m2 E S1 = .ok (.int j) S2) (hi : -(2 ^ 60) < i) (hi2 : i < 2 ^ 60) (hj : -(2 ^ 60) < j) (hj2 : j < 2 ^ 60) :
    mWk fRange (mCons m1 (mCons m2 mNil)) E S = .ok (.items (rangeI i (j - i).toNat)) S2 := by
  have a := in62_of hi hi2
  have b := in62_of hj hj2
  unfold mWk
  simp only [mCons, mNil, h, h', R.bind, fRange, a, b, Bool.and_true, cond_true]
theorem mFor_wk {mi : MI} {tg : Tg} {b : MS} {N : Nat} {E : Env'} {S S1 : Sto} {k : Wk} (h : mi E S = .ok k S1) : mFor N mi tg b E S = mForGo tg b N k E S1 := by
  unfold mFor
  rw [h]
  rfl
theorem mLc_wk {mi : MI} {tg : Tg} {t : MT} {e : ME} {vs : List Nat} {N : Nat} {E : Env'} {S S1 : Sto} {xs : List IV} (g : IV → IV) (h : mi E S = .ok (.items xs) S1) (hN : xs.length < N) (hs : ∀ x ∈ xs, ∃ E1, bindT tg x (wipeE E vs) = some E1 ∧ t E1 S1 = .ok true S1 ∧ e E1 S1 = .ok (g x) S1) :
    mLc N mi tg t e vs E S = .ok (.ref S1.top) (S1.new (.lst (xs.map g))) := by
  unfold mLc
  rw [h]
  show R.bind (mLcGo tg t e N (.items xs) [] (wipeE E vs) S1) _ = _
  rw [lcGo_items g S1 xs N [] hN hs]
  rfl
theorem intsOf_map (l : List Int) : intsOf (l.map IV.int) = some l := by
  induction l with
  | nil => rfl
  | cons i l ih =>
    show (intsOf (l.map IV.int)).map (i :: ·) = _
    rw [ih]
    rfl
theorem bSum_lst {S : Sto} {n : Nat} {l : List Int} (g : S.get n = some (.lst (l.map IV.int))) : bSum [.ref n] S = .ok (.int l.sum) S := by
  show (match (match S.get n with | some (.lst xs) => intsOf xs | none => none) with | some ns => R.ok (IV.int ns.sum) S | none => R.no) = _
  rw [g]
  show (match intsOf (l.map IV.int) with | some ns => R.ok (IV.int ns.sum) S | none => R.no) = _
  rw [intsOf_map]
theorem bTuple_lst {S : Sto} {n : Nat} {xs : List IV} (g : S.get n = some (.lst xs)) : bTuple [.ref n] S = .ok (.tup xs) S := by
  show (match (match S.get n with | some (.lst xs) => some xs | none => none) with | some xs => R.ok (IV.tup xs) S | none => R.no) = _
  rw [g]
/-! ### steps -/
theorem mDef_nx {n : Nat} {b : MS} {as : List IV} {E E' : Env'} {S S' : Sto} (hE : as.map some ++ List.replicate (n - as.length) none = E) (h : b E S = .nx E' S') : mDef n b as S = .ok .non S' := by
  subst hE
  unfold mDef
  rw [h]
theorem mSet_ok {i : Nat} {m : ME} {E : Env'} {S S1 : Sto} {v : IV} (h : m E S = .ok v S1) : mSet i m E S = .nx (E.set i (some v)) S1 := by
  unfold mSet
  rw [h]
  rfl
theorem mRet_ok {m : ME} {E : Env'} {S S1 : Sto} {v : IV} (h : m E S = .ok v S1) : mRet m E S = .rt v S1 := by
  unfold mRet
  rw [h]
  rfl
theorem mDrop_ok {m : ME} {E : Env'} {S S1 : Sto} {v : IV} (h : m E S = .ok v S1) : mDrop m E S = .nx E S1 := by
  unfold mDrop
  rw [h]
  rfl
theorem mAsg_ok {b : Tg} {m : ME} {E E1 : Env'} {S S1 : Sto} {v : IV} (h : m E S = .ok v S1) (h1 : bindT b v E = some E1) : mAsg b m E S = .nx E1 S1 := by
  unfold mAsg
  rw [h]
  show (match bindT b v E with | some E' => Fl.nx E' S1 | none => Fl.no) = _
  rw [h1]
theorem mB_ok {f : MO} {ma mb : ME} {E : Env'} {S S1 S2 : Sto} {a b : IV} {r : R IV} (h : ma E S = .ok a S1) (h1 : mb E S1 = .ok b S2) (h2 : f a b S2 = r) : mB f ma mb E S = r := by
  unfold mB
  rw [h]
  show R.bind (mb E S1) _ = _
  rw [h1]
  exact h2
theorem mTB_ok {m : ME} {E : Env'} {S S1 : Sto} {c : Bool} (h : m E S = .ok (.bl c) S1) : mTB m E S = .ok c S1 := by
  unfold mTB
  rw [h]
  rfl
theorem mIfS_t {t : MT} {a b : MS} {E : Env'} {S S1 : Sto} (h : t E S = .ok true S1) : mIfS t a b E S = a E S1 := by
  unfold mIfS
  rw [h]
  rfl
theorem mIfS_f {t : MT} {a b : MS} {E : Env'} {S S1 : Sto} (h : t E S = .ok false S1) : mIfS t a b E S = b E S1 := by
  unfold mIfS
  rw [h]
  rfl
theorem mNil_ok {E : Env'} {S : Sto} : mNil E S = .ok [] S := rfl
theorem mCons_ok {m : ME} {ms : MA} {E : Env'} {S S1 S2 : Sto} {v : IV} {vs : List IV} (h : m E S = .ok v S1) (h1 : ms E S1 = .ok vs S2) : mCons m ms E S = .ok (v :: vs) S2 := by
  unfold mCons
  rw [h]
  show R.bind (ms E S1) _ = _
  rw [h1]
  rfl
theorem mCall_ok {f : MF} {ms : MA} {E : Env'} {S S1 : Sto} {vs : List IV} {r : R IV} (h : ms E S = .ok vs S1) (h1 : f vs S1 = r) : mCall f ms E S = r := by
  unfold mCall
  rw [h]
  exact h1
theorem mCallO_ok {f : MF} {ms : MA} {E : Env'} {S S1 : Sto} {vs : List IV} {r : R IV} (h : ms E S = .ok vs S1) (h1 : own f vs S1 = r) : mCallO f ms E S = r := by
  unfold mCallO
  rw [h]
  exact h1
theorem mOrT_t {t u : MT} {E : Env'} {S S1 : Sto} (h : t E S = .ok true S1) : mOrT t u E S = .ok true S1 := by
  unfold mOrT
  rw [h]
  rfl
theorem mOrT_f {t u : MT} {E : Env'} {S S1 : Sto} {r : R Bool} (h : t E S = .ok false S1) (h1 : u E S1 = r) : mOrT t u E S = r := by
  unfold mOrT
  rw [h]
  exact h1
theorem mAndT_f {t u : MT} {E : Env'} {S S1 : Sto} (h : t E S = .ok false S1) : mAndT t u E S = .ok false S1 := by
  unfold mAndT
  rw [h]
  rfl
theorem mAndT_t {t u : MT} {E : Env'} {S S1 : Sto} {r : R Bool} (h : t E S = .ok true S1) (h1 : u E S1 = r) : mAndT t u E S = r := by
  unfold mAndT
  rw [h]
  exact h1
theorem mNotT_ok {t : MT} {E : Env'} {S S1 : Sto} {c : Bool} (h : t E S = .ok c S1) : mNotT t E S = .ok (!c) S1 := by
  unfold mNotT
  rw [h]
  rfl
theorem mTru_bl {m : ME} {E : Env'} {S S1 : Sto} {c : Bool} (h : m E S = .ok (.bl c) S1) : mTru m E S = .ok c S1 := by
  unfold mTru
  rw [h]
  rfl
theorem mAndV_t {ma mb : ME} {E : Env'} {S S1 : Sto} {r : R IV} (h : ma E S = .ok (.bl true) S1) (h1 : mb E S1 = r) : mAndV ma mb E S = r := by
  unfold mAndV
  rw [h]
  exact h1
theorem mAndV_f {ma mb : ME} {E : Env'} {S S1 : Sto} (h : ma E S = .ok (.bl false) S1) : mAndV ma mb E S = .ok (.bl false) S1 := by
  unfold mAndV
  rw [h]
  rfl
theorem mSeq_rt {a b : MS} {E : Env'} {S S1 : Sto} {v : IV} (h : a E S = .rt v S1) : mSeq a b E S = .rt v S1 := by
  unfold mSeq
  rw [h]
theorem mTup_ok {ms : MA} {E : Env'} {S S1 : Sto} {vs : List IV} (h : ms E S = .ok vs S1) (hl : vs.length < 1000000) : mTup ms E S = .ok (.tup vs) S1 := by
  unfold mTup
  rw [h]
  have : fullLen vs.length = true := Nat.ble_eq.mpr (by omega)
  show (bif fullLen vs.length then _ else _) = _
  rw [this]
  rfl
theorem mLst_ok {ms : MA} {E : Env'} {S S1 : Sto} {vs : List IV} (h : ms E S = .ok vs S1) (hl : vs.length < 1000000) : mLst ms E S = .ok (.ref S1.top) (S1.new (.lst vs)) := by
  unfold mLst
  rw [h]
  have : fullLen vs.length = true := Nat.ble_eq.mpr (by omega)
  show (bif fullLen vs.length then _ else _) = _
  rw [this]
  rfl
theorem mPar_ok {i j : Nat} {ms : MA} {E : Env'} {S S1 : Sto} {v w : IV} (h : ms E S = .ok [v, w] S1) : mPar i j ms E S = .nx ((E.set i (some v)).set j (some w)) S1 := by
  unfold mPar
  rw [h]
  rfl
theorem mPar3_ok {i j l : Nat} {ms : MA} {E : Env'} {S S1 : Sto} {v w x : IV} (h : ms E S = .ok [v, w, x] S1) : mPar3 i j l ms E S = .nx (((E.set i (some v)).set j (some w)).set l (some x)) S1 := by
  unfold mPar3
  rw [h]
  rfl
theorem mIf_t {t : MT} {a b : ME} {E : Env'} {S S1 : Sto} {r : R IV} (h : t E S = .ok true S1) (h1 : a E S1 = r) : mIf t a b E S = r := by
  unfold mIf
  rw [h]
  exact h1
theorem mIf_f {t : MT} {a b : ME} {E : Env'} {S S1 : Sto} {r : R IV} (h : t E S = .ok false S1) (h1 : b E S1 = r) : mIf t a b E S = r := by
  unfold mIf
  rw [h]
  exact h1
theorem fEq_int {i j : Int} {S : Sto} : fEq (.int i) (.int j) S = .ok (.bl (decide (i = j))) S := rfl
theorem fNe_int {i j : Int} {S : Sto} : fNe (.int i) (.int j) S = .ok (.bl (!decide (i = j))) S := rfl
theorem Sto.get_top (S : Sto) : S.get S.top = none := by
  unfold Sto.get
  rw [if_neg (Nat.lt_irrefl _)]
end FX

set_option Elab.async false
set_option linter.all false
set_option maxRecDepth 100000
set_option maxHeartbeats 2000000
set_option autoImplicit false
/-! FP4: walks over a cell, membership, the dice in a law -/
namespace FX
open PySem PySem.Spec PyProof.Rows L2
theorem forGo_cell {tg : Tg} {b : MS} {n : Nat} {xs : List IV} (P : Nat → Env' → Sto → Prop) (hg : ∀ i E S, P i E S → S.get n = some (.lst xs))
    (hs : ∀ i x E S, xs[i]? = some x → P i E S → ∃ E1 E2 S2, bindT tg x E = some E1 ∧ b E1 S = .nx E2 S2 ∧ P (i + 1) E2 S2) :
    ∀ (k N i : Nat) (E : Env') (S : Sto), xs.length - i = k → i ≤ xs.length → k < N → P i E S → ∃ E' S', mForGo tg b N (.cell n i) E S = .nx E' S' ∧ P xs.length E' S' := by
  intro k
  induction k with
  | zero =>
    intro N i E S hk hi hN h
    cases N with
    | zero => omega
    | succ N =>
      refine ⟨E, S, ?_, by rw [show xs.length = i by omega]; exact h⟩
      have e : xs[i]? = none := List.getElem?_eq_none (by omega)
      unfold mForGo
      simp only [Wk.step, hg i E S h, e]
  | succ k ih =>
    intro N i E S hk hi hN h
    cases N with
    | zero => omega
    | succ N =>
      have hlt : i < xs.length := by omega
      have e : xs[i]? = some xs[i] := List.getElem?_eq_getElem hlt
      obtain ⟨E1, E2, S2, h1, h2, h3⟩ := hs i _ E S e h
      obtain ⟨E', S', h4, h5⟩ := ih N (i + 1) E2 S2 (by omega) hlt (by omega) h3
      refine ⟨E', S', ?_, h5⟩
      unfold mForGo
      simp only [Wk.step, hg i E S h, e, h1, h2]
      exact h4
theorem all_flat_ints : ∀ l : List Int, (l.map IV.int).all flatI = true
  | [] => rfl
  | i :: l => by
    show (true && (l.map IV.int).all flatI) = true
    rw [all_flat_ints l]
    rfl
theorem inV_ints (i : Int) : ∀ l : List Int, inV (.int i) ((l.map IV.int).map toVf) = decide (i ∈ l)
  | [] => rfl
  | j :: l => by
    show ((j == i) || inV (.int i) ((l.map IV.int).map toVf)) = _
    rw [inV_ints i l]
    by_cases h : j = i
    · subst h; simp
    · have h' : ¬ i = j := fun z => h z.symm
      simp [h, h']
theorem fIn_lst {S : Sto} {n : Nat} {l : List Int} {i : Int} (g : S.get n = some (.lst (l.map IV.int))) : fIn (.int i) (.ref n) S = .ok (.bl (decide (i ∈ l))) S := by
  have e : inIV S (.int i) (.ref n) = some (decide (i ∈ l)) := by
    unfold inIV
    have g' : itemsOf S (.ref n) = some (l.map IV.int) := by
      show (match S.get n with | some (.lst xs) => some xs | none => none) = _
      rw [g]
    rw [g']
    show (bif (true && (l.map IV.int).all flatI) then some (inV (.int i) ((l.map IV.int).map toVf)) else _) = _
    rw [all_flat_ints, inV_ints]
    rfl
  unfold fIn
  rw [e]
theorem fAdd_lst {S : Sto} {n m : Nat} {xs ys : List IV} (g : S.get n = some (.lst xs)) (g' : S.get m = some (.lst ys)) (h : xs.length + ys.length < 1000000) : fAdd (.ref n) (.ref m) S = .ok (.ref S.top) (S.new (.lst (xs ++ ys))) := by
  show (match S.get n, S.get m with | some (.lst xs), some (.lst ys) => bif fullLen (xs.length + ys.length) then R.ok (IV.ref S.top) (S.new (.lst (xs ++ ys))) else R.no | _, _ => R.no) = _
  rw [g, g']
  have : fullLen (xs.length + ys.length) = true := Nat.ble_eq.mpr (by omega)
  show (bif fullLen (xs.length + ys.length) then _ else _) = _
  rw [this]
  rfl
theorem data_str (S : Sto) (x : Str) (h : PyData.canLay0 (.str x) = true) : dataOf S (.str x) = some (.str x) := by
  have e : toD S fuelD (.str x) = some (.str x) := by rw [fuelD_eq]; rfl
  have s : SeqAt.shaped (.str x) = true := by
    show (PyData.canLay0 _ && decide (PyData.depth _ ≤ 64)) = true
    rw [h]
    rfl
  unfold dataOf
  rw [e]
  show (bif SeqAt.shaped _ then _ else _) = _
  rw [s]
  rfl
theorem fNe_str {S : Sto} {x : Str} (h : PyData.canLay0 (.str x) = true) : fNe (.str x) (.str x) S = .ok (.bl false) S := by
  have e : eqIV S (.str x) (.str x) = some true := by
    show (match dataOf S _, dataOf S _ with | some d, some e => some (PyData.eqv d e) | _, _ => none) = _
    rw [data_str S x h]
    show some (x == x) = _
    simp
  unfold fNe
  rw [e]
  rfl
theorem repr_bool (b : Bool) (S : Sto) : bRepr [.bl b] S = .ok (.str (if b then "True" else "False")) S := rfl
theorem fNe_repr {S : Sto} (b : Bool) : fNe (.str (if b then "True" else "False")) (.str (if b then "True" else "False")) S = .ok (.bl false) S := by
  cases b
  · exact fNe_str (by decide +kernel)
  · exact fNe_str (by decide +kernel)
namespace Dice
theorem KeepBut.keep {n : Nat} {S S' : Sto} (h : KeepBut n S S') {i : Nat} {o : IO} (hi : i ≠ n) (g : S.get i = some o) : S'.get i = some o := h i o hi g
theorem own_dice (ns : List Int) (at_ : Nat) (S : Sto) (hl : ns.length ≤ 63) (ha : at_ ≤ 63) : ∃ S', own m__law_dice [.frz (ns.map IV.int), .int at_] S = .ok (.ref S.top) S' ∧ At S' S.top 0 ∧ Keep S S' ∧ S'.top = S.top + 1 := by
  obtain ⟨a, b, e, ha, hb, hc⟩ := dice_ok ns at_ ⟨0, []⟩ hl ha
  have hf : flatRs [IV.frz (ns.map IV.int), IV.int (at_ : Int)] = true := by
    show (flatRs (ns.map IV.int) && true) = true
    rw [flat_ints]
    rfl
  have ho := own_ref hf e S
  refine ⟨_, ho, ⟨a, b, 0, ?_, ‹0 ≤ a›, hb, hc, Int.le_refl 0, Int.le_refl 0⟩, fun i o g => ?_, rfl⟩
  · have := get_app_new (S := S) (S' := Sto.new ⟨0, []⟩ (.lst [.int a, .int b, .int 0])) rfl 0 (show 0 < 0 + 1 from Nat.one_pos)
    exact this
  · have := get_app (S := S) (S' := Sto.new ⟨0, []⟩ (.lst [.int a, .int b, .int 0])) rfl i (get_lt g)
    exact this.trans g
theorem own_roll {S : Sto} {n k : Nat} (t : Nat) (h : At S n k) (ht : 0 < t) (ht2 : t < 2 ^ 20) (hk : k < 1000) :
    ∃ (r : Nat) (S' : Sto), own m__law_roll [.ref n, .int t] S = .ok (.int r) S' ∧ r < t ∧ At S' n (k + 1) ∧ KeepBut n S S' ∧ S'.top = S.top := by
  obtain ⟨r, S', e, h1, h2, h3, h4, h5⟩ := roll_ok (t : Int) h (by omega) (by omega) (by omega)
  refine ⟨r.toNat, S', ?_, by omega, h3, h4, h5⟩
  rw [own_cell rfl, e, Int.toNat_of_nonneg h1]
theorem own_one_lst {S : Sto} {n m k : Nat} {xs : List IV} (h : At S n k) (hm : m ≠ n) (g : S.get m = some (.lst xs)) (hx : 0 < xs.length) (hx2 : xs.length < 1000) (hk : k < 1000) :
    ∃ v S', own m__law_one_of [.ref n, .ref m] S = .ok v S' ∧ v ∈ xs ∧ At S' n (k + 1) ∧ KeepBut n S S' ∧ S'.top = S.top := by
  obtain ⟨v, S', e, h1, h2, h3, h4⟩ := one_of_lst h hm g hx (by omega) (by omega)
  exact ⟨v, S', by rw [own_cell rfl, e], h1, h2, h3, h4⟩
theorem At.lt {S : Sto} {n k : Nat} (h : At S n k) : n < S.top := by
  obtain ⟨a, b, c, g, _⟩ := h
  exact get_lt g
theorem At.new {S : Sto} {n k : Nat} (h : At S n k) (o : IO) : At (S.new o) n k := h.keep (Keep.new S o)
end Dice
end FX

set_option Elab.async false
set_option linter.all false
set_option maxRecDepth 100000
set_option maxHeartbeats 4000000
set_option autoImplicit false
namespace LW
open PySem PySem.Spec PyProof.Rows L2 FX
def top (i : Nat) : Stmt := PySem.Challenge.pw_wildsteps_k53_whole_step_numbers_and_cou.main.body.getD i (.Pass ⟨0, 0, 0, 0⟩)
/-! ### the functions -/
def b_is_whole_number : MS :=
  (mRet (mAndV (mCall bIsI (mCons (mV 0) (mCons (mC (.ty .int)) mNil))) (mU fNotV (mCall bIsI (mCons (mV 0) (mCons (mC (.ty .bool)) mNil))))))
def m_is_whole_number : MF := mDef 1 b_is_whole_number
def b_is_integer : MS :=
  (mRet (mAndV (mCallO m_is_whole_number (mCons (mV 0) mNil)) (mChain fLt fLt (mU fNeg (mC (.int (1000000000000000000000000000000000000000000000000000000000000)))) (mV 0) (mC (.int (1000000000000000000000000000000000000000000000000000000000000))))))
def m_is_integer : MF := mDef 1 b_is_integer
def b_is_within : MS :=
  (mRet (mAndV (mCallO m_is_whole_number (mCons (mV 0) mNil)) (mChain fLe fLe (mV 1) (mV 0) (mV 2))))
def m_is_within : MF := mDef 3 b_is_within
def b_power_of : MS :=
  (mSeq (mPar3 2 3 4 (mCons (mC (.int 1)) (mCons (mV 0) (mCons (mV 1) mNil))))
    (mSeq (mWhile (mTB (mB fGt (mV 4) (mC (.int 0)))) (mSeq (mIfS (mTB (mB fEq (mB fMod (mV 4) (mC (.int 2))) (mC (.int 1)))) (mSet 2 (mB fMul (mV 2) (mV 3))) mSkip)
    (mSeq (mSet 4 (mB fDiv (mV 4) (mC (.int 2))))
    (mSet 3 (mIf (mTB (mB fGt (mV 4) (mC (.int 0)))) (mB fMul (mV 3) (mV 3)) (mV 3))))) 100000)
    (mRet (mV 2))))
def m_power_of : MF := mDef 5 b_power_of
def b_exponent_in : MS :=
  (mSeq (mSet 2 (mC (.int 0)))
    (mSeq (mWhile (mTB (mB fEq (mB fMod (mV 1) (mV 0)) (mC (.int 0)))) (mSeq (mAug 1 fDivS (mV 0))
    (mAug 2 fAddI (mC (.int 1)))) 100000)
    (mRet (mV 2))))
def m_exponent_in : MF := mDef 3 b_exponent_in
def b_ratio_in : MS :=
  (mSeq (mSet 2 (mIf (mTB (mB fGt (mV 1) (mC (.int 0)))) (mCall bGcd (mCons (mV 0) (mCons (mV 1) mNil))) (mU fNeg (mCall bGcd (mCons (mV 0) (mCons (mV 1) mNil))))))
    (mRet (mTup (mCons (mB fDiv (mV 0) (mV 2)) (mCons (mB fDiv (mV 1) (mV 2)) mNil)))))
def m_ratio_in : MF := mDef 3 b_ratio_in
def b_require_prime : MS :=
  (mIfS (mOrT (mNotT (mTru (mCallO m_is_integer (mCons (mV 0) mNil)))) (mTB (mB fNotIn (mV 0) (mC (.tup (List.map IV.int [(2), (3), (5), (7)])))))) mStuck mSkip)
def m_require_prime : MF := mDef 1 b_require_prime
def b_require_within : MS :=
  (mIfS (mNotT (mTru (mCallO m_is_within (mCons (mV 0) (mCons (mV 1) (mCons (mV 2) mNil)))))) mStuck mSkip)
def m_require_within : MF := mDef 3 b_require_within
def b_least_of_ore : MS :=
  (mSeq (mPar 3 4 (mCons (mB fMod (mV 2) (mV 1)) (mCons (mB fMul (mV 1) (mCallO m_exponent_in (mCons (mV 0) (mCons (mV 1) mNil)))) mNil)))
    (mRet (mIf (mTB (mB fEq (mV 3) (mC (.int 0)))) (mV 4) (mCall bMin (mCons (mB fMul (mV 1) (mCallO m_exponent_in (mCons (mV 0) (mCons (mV 3) mNil)))) (mCons (mV 4) mNil))))))
def m_least_of_ore : MF := mDef 5 b_least_of_ore
def b_ore_in : MS :=
  (mSeq (mSet 2 (mB fMul (mV 1) (mCallO m_exponent_in (mCons (mV 0) (mCons (mV 1) mNil)))))
    (mRet (mLc 1000000 (mWk fRange (mCons (mB fAdd (mV 2) (mC (.int 1))) mNil)) (.name 3) (mTB (mB fLe (mCallO m_least_of_ore (mCons (mV 0) (mCons (mV 1) (mCons (mV 3) mNil)))) (mV 3))) (mV 3) [3])))
def m_ore_in : MF := mDef 4 b_ore_in
def b_krasner_in : MS :=
  (mSeq (mAsg (.tup [(.name 4), (.name 5)]) (mCall bDivmod (mCons (mV 3) (mCons (mV 2) mNil))))
    (mSeq (mSet 6 (mCallO m_power_of (mCons (mV 0) (mCons (mV 1) mNil))))
    (mSeq (mSet 7 (mCall bSum (mCons (mLc 1000000 (mWk fRange (mCons (mC (.int 1)) (mCons (mB fAdd (mV 4) (mC (.int 1))) mNil))) (.name 8) mYes (mB fDiv (mV 2) (mCallO m_power_of (mCons (mV 0) (mCons (mV 8) mNil)))) [8]) mNil)))
    (mSeq (mIfS (mTB (mB fEq (mV 5) (mC (.int 0)))) (mRet (mB fMul (mV 2) (mCallO m_power_of (mCons (mV 6) (mCons (mV 7) mNil))))) mSkip)
    (mRet (mB fMul (mB fMul (mV 2) (mB fSub (mV 6) (mC (.int 1)))) (mCallO m_power_of (mCons (mV 6) (mCons (mB fAdd (mV 7) (mB fDiv (mB fSub (mV 5) (mC (.int 1))) (mCallO m_power_of (mCons (mV 0) (mCons (mB fAdd (mV 4) (mC (.int 1))) mNil))))) mNil)))))))))
def m_krasner_in : MF := mDef 9 b_krasner_in
def b_closure_count_in : MS :=
  (mSeq (mSet 2 (mC (.int 0)))
    (mSeq (mFor 1000000 (mWk fRange (mCons (mC (.int 1)) (mCons (mB fAdd (mV 1) (mC (.int 1))) mNil))) (.name 3) (mIfS (mTB (mB fEq (mB fMod (mV 1) (mV 3)) (mC (.int 0)))) (mSeq (mSet 4 (mB fDiv (mV 1) (mV 3)))
    (mAug 2 fAddI (mCall bSum (mCons (mLc 1000000 (mSeqW (mCallO m_ore_in (mCons (mV 0) (mCons (mV 4) mNil)))) (.name 5) mYes (mCallO m_krasner_in (mCons (mV 0) (mCons (mV 3) (mCons (mV 4) (mCons (mV 5) mNil))))) [5]) mNil)))) mSkip))
    (mRet (mV 2))))
def m_closure_count_in : MF := mDef 6 b_closure_count_in
def b_require_sizes : MS :=
  (mSeq (mDrop (mCallO m_require_prime (mCons (mV 0) mNil)))
    (mSeq (mDrop (mCallO m_require_within (mCons (mV 1) (mCons (mC (.int 1)) (mCons (mC (.int (12))) mNil)))))
    (mDrop (mCallO m_require_within (mCons (mV 2) (mCons (mC (.int 1)) (mCons (mC (.int (30))) mNil)))))))
def m_require_sizes : MF := mDef 3 b_require_sizes
def b_is_step_in : MS :=
  (mSeq (mSet 3 (mB fMul (mV 1) (mCallO m_exponent_in (mCons (mV 0) (mCons (mV 1) mNil)))))
    (mRet (mAndV (mCallO m_is_within (mCons (mV 2) (mCons (mC (.int 0)) (mCons (mV 3) mNil)))) (mB fLe (mCallO m_least_of_ore (mCons (mV 0) (mCons (mV 1) (mCons (mV 2) mNil)))) (mV 2)))))
def m_is_step_in : MF := mDef 4 b_is_step_in
def b_require_counted : MS :=
  (mSeq (mDrop (mCallO m_require_sizes (mCons (mV 0) (mCons (mV 1) (mCons (mV 2) mNil)))))
    (mIfS (mNotT (mTru (mCallO m_is_step_in (mCons (mV 0) (mCons (mV 2) (mCons (mV 3) mNil)))))) mStuck mSkip))
def m_require_counted : MF := mDef 4 b_require_counted
def b_ore_numbers : MS :=
  (mSeq (mDrop (mCallO m_require_prime (mCons (mV 0) mNil)))
    (mSeq (mDrop (mCallO m_require_within (mCons (mV 1) (mCons (mC (.int 1)) (mCons (mC (.int (30))) mNil)))))
    (mRet (mCall bTuple (mCons (mCallO m_ore_in (mCons (mV 0) (mCons (mV 1) mNil))) mNil)))))
def m_ore_numbers : MF := mDef 2 b_ore_numbers
def b_is_step_number : MS :=
  (mSeq (mDrop (mCallO m_require_prime (mCons (mV 0) mNil)))
    (mSeq (mDrop (mCallO m_require_within (mCons (mV 1) (mCons (mC (.int 1)) (mCons (mC (.int (30))) mNil)))))
    (mRet (mCallO m_is_step_in (mCons (mV 0) (mCons (mV 1) (mCons (mV 2) mNil)))))))
def m_is_step_number : MF := mDef 3 b_is_step_number
def b_krasner_count : MS :=
  (mSeq (mDrop (mCallO m_require_counted (mCons (mV 0) (mCons (mV 1) (mCons (mV 2) (mCons (mV 3) mNil))))))
    (mRet (mCallO m_krasner_in (mCons (mV 0) (mCons (mV 1) (mCons (mV 2) (mCons (mV 3) mNil)))))))
def m_krasner_count : MF := mDef 4 b_krasner_count
def b_count_share : MS :=
  (mSeq (mDrop (mCallO m_require_counted (mCons (mV 0) (mCons (mV 1) (mCons (mV 2) (mCons (mV 3) mNil))))))
    (mRet (mCallO m_ratio_in (mCons (mCallO m_krasner_in (mCons (mV 0) (mCons (mV 1) (mCons (mV 2) (mCons (mV 3) mNil))))) (mCons (mCallO m_power_of (mCons (mCallO m_power_of (mCons (mV 0) (mCons (mV 1) mNil))) (mCons (mV 3) mNil))) mNil)))))
def m_count_share : MF := mDef 4 b_count_share
def b_closure_count : MS :=
  (mSeq (mDrop (mCallO m_require_prime (mCons (mV 0) mNil)))
    (mSeq (mDrop (mCallO m_require_within (mCons (mV 1) (mCons (mC (.int 1)) (mCons (mC (.int (12))) mNil)))))
    (mRet (mCallO m_closure_count_in (mCons (mV 0) (mCons (mV 1) mNil))))))
def m_closure_count : MF := mDef 2 b_closure_count
def b__law_dice : MS :=
  (mSeq (mSet 2 (mB fAdd (mB fMul (mC (.int 107)) (mV 1)) (mC (.int 53))))
    (mSeq (mIfS (mTB (mB fLt (mV 1) (mCall bLen (mCons (mV 0) mNil)))) (mSet 2 (mB fIx (mV 0) (mV 1))) mSkip)
    (mSeq (mSet 3 (mB fMod (mCall bInt (mCons (mCall bAbs (mCons (mV 2) mNil)) mNil)) (mB fPow (mB fPow (mC (.int 10)) (mC (.int 60))) (mC (.int 10)))))
    (mSeq (mSet 4 (mB fDiv (mV 3) (mB fPow (mC (.int 10)) (mC (.int 18)))))
    (mSeq (mSet 5 (mB fAdd (mB fAdd (mB fAdd (mB fMul (mB fMod (mV 3) (mC (.int 2147482589))) (mC (.int 60589))) (mB fMul (mC (.int 3559)) (mV 1))) (mB fMul (mC (.int 97)) (mCall bInt (mCons (mB fLt (mV 2) (mC (.int 0))) mNil)))) (mC (.int 131))))
    (mRet (mLst (mCons (mV 4) (mCons (mB fMod (mV 5) (mC (.int 2147482577))) (mCons (mC (.int 0)) mNil))))))))))
def m__law_dice : MF := mDef 6 b__law_dice
def b__law_roll : MS :=
  (mSeq (mSet 2 (mCall bInt (mCons (mV 1) mNil)))
    (mSeq (mIfS (mTB (mB fGt (mB fIx (mV 0) (mC (.int 0))) (mC (.int 0)))) (mSeq (mSet 3 (mB fMod (mB fIx (mV 0) (mC (.int 0))) (mV 2)))
    (mSeq (mPut (mV 0) (mC (.int 0)) (mB fDiv (mB fIx (mV 0) (mC (.int 0))) (mV 2)))
    (mRet (mCall bInt (mCons (mV 3) mNil))))) mSkip)
    (mSeq (mPut (mV 0) (mC (.int 2)) (mB fAdd (mB fIx (mV 0) (mC (.int 2))) (mC (.int 1))))
    (mSeq (mSet 4 (mB fMod (mB fAdd (mB fIx (mV 0) (mC (.int 1))) (mB fMul (mC (.int 1000393)) (mB fIx (mV 0) (mC (.int 2))))) (mC (.int 2305843009213693951))))
    (mSeq (mSet 5 (mB fAdd (mB fMul (mB fMod (mB fMul (mV 4) (mV 4)) (mC (.int 2305843009213693921))) (mV 4)) (mB fMul (mC (.int 9511)) (mB fIx (mV 0) (mC (.int 2))))))
    (mSeq (mSet 5 (mB fMod (mV 5) (mC (.int 2305843009213693907))))
    (mRet (mCall bInt (mCons (mB fMod (mB fDiv (mV 5) (mC (.int 4096))) (mV 2)) mNil)))))))))
def m__law_roll : MF := mDef 6 b__law_roll
def b__law_one_of : MS :=
  (mRet (mB fIx (mV 1) (mCallO m__law_roll (mCons (mV 0) (mCons (mCall bLen (mCons (mV 1) mNil)) mNil)))))
def m__law_one_of : MF := mDef 2 b__law_one_of
def b__law_power : MS :=
  (mSeq (mSet 2 (mC (.int 1)))
    (mSeq (mFor 1000000 (mWk fRange (mCons (mV 1) mNil)) (.name 3) (mSet 2 (mB fMul (mV 2) (mV 0))))
    (mRet (mV 2))))
def m__law_power : MF := mDef 4 b__law_power
def b__law_gcd : MS :=
  (mSeq (mPar 0 1 (mCons (mCall bAbs (mCons (mV 0) mNil)) (mCons (mCall bAbs (mCons (mV 1) mNil)) mNil)))
    (mSeq (mWhile (mTB (mB fGt (mV 1) (mC (.int 0)))) (mPar 0 1 (mCons (mV 1) (mCons (mB fMod (mV 0) (mV 1)) mNil))) 100000)
    (mRet (mV 0))))
def m__law_gcd : MF := mDef 2 b__law_gcd
def b__law_lowest : MS :=
  (mSeq (mSet 2 (mCallO m__law_gcd (mCons (mV 0) (mCons (mV 1) mNil))))
    (mSeq (mIfS (mTB (mB fLt (mV 1) (mC (.int 0)))) (mSet 2 (mB fSub (mC (.int 0)) (mV 2))) mSkip)
    (mRet (mTup (mCons (mB fDiv (mV 0) (mV 2)) (mCons (mB fDiv (mV 1) (mV 2)) mNil))))))
def m__law_lowest : MF := mDef 3 b__law_lowest
def b__law_exponent : MS :=
  (mSeq (mPar 2 3 (mCons (mC (.int 0)) (mCons (mV 1) mNil)))
    (mSeq (mWhile (mTB (mB fEq (mB fMod (mV 3) (mV 0)) (mC (.int 0)))) (mPar 3 2 (mCons (mB fDiv (mV 3) (mV 0)) (mCons (mB fAdd (mV 2) (mC (.int 1))) mNil))) 100000)
    (mRet (mV 2))))
def m__law_exponent : MF := mDef 4 b__law_exponent
def b__law_ore : MS :=
  (mSeq (mPar 2 3 (mCons (mCallO m__law_exponent (mCons (mV 0) (mCons (mV 1) mNil))) (mCons (mLst mNil) mNil)))
    (mSeq (mFor 1000000 (mWk fRange (mCons (mB fAdd (mB fMul (mV 1) (mV 2)) (mC (.int 1))) mNil)) (.name 4) (mSeq (mSet 5 (mB fMod (mV 4) (mV 1)))
    (mSeq (mSet 6 (mIf (mTB (mB fEq (mV 5) (mC (.int 0)))) (mB fMul (mV 1) (mV 2)) (mCall bMin (mCons (mB fMul (mV 1) (mCallO m__law_exponent (mCons (mV 0) (mCons (mV 5) mNil)))) (mCons (mB fMul (mV 1) (mV 2)) mNil)))))
    (mIfS (mTB (mB fLe (mV 6) (mV 4))) (mDrop (mMet fAppend (mV 3) (mCons (mV 4) mNil))) mSkip))))
    (mRet (mV 3))))
def m__law_ore : MF := mDef 7 b__law_ore
def b__law_is_whole : MS :=
  (mRet (mAndV (mCall bIsI (mCons (mV 0) (mCons (mC (.ty .int)) mNil))) (mU fNotV (mCall bIsI (mCons (mV 0) (mCons (mC (.ty .bool)) mNil))))))
def m__law_is_whole : MF := mDef 1 b__law_is_whole
def b__law_share : MS :=
  (mSeq (mPar 4 5 (mCons (mCallO m__law_power (mCons (mV 0) (mCons (mV 1) mNil))) (mCons (mB fMod (mV 3) (mV 2)) mNil)))
    (mSeq (mPar 6 7 (mCons (mV 2) (mCons (mC (.int 1)) mNil)))
    (mSeq (mFor 1000000 (mWk fRange (mCons (mC (.int 1)) (mCons (mV 2) mNil))) (.name 8) (mSeq (mSet 9 (mC (.int 1)))
    (mSeq (mWhile (mTB (mB fLt (mB fAdd (mB fMul (mV 2) (mB fAdd (mCallO m__law_exponent (mCons (mV 0) (mCons (mV 8) mNil))) (mV 9))) (mV 8)) (mB fAdd (mB fAdd (mV 2) (mV 3)) (mCall bInt (mCons (mB fNe (mV 8) (mV 5)) mNil))))) (mSet 9 (mB fAdd (mV 9) (mC (.int 1)))) 100000)
    (mSeq (mSet 7 (mB fMul (mV 7) (mCallO m__law_power (mCons (mV 4) (mCons (mB fSub (mV 9) (mC (.int 1))) mNil)))))
    (mIfS (mTB (mB fEq (mV 8) (mV 5))) (mPar 6 7 (mCons (mB fMul (mV 6) (mB fSub (mV 4) (mC (.int 1)))) (mCons (mB fMul (mV 7) (mV 4)) mNil))) mSkip)))))
    (mRet (mCallO m__law_lowest (mCons (mV 6) (mCons (mV 7) mNil)))))))
def m__law_share : MF := mDef 10 b__law_share
def b__law_own_count : MS :=
  (mSeq (mSet 4 (mCallO m__law_share (mCons (mV 0) (mCons (mV 1) (mCons (mV 2) (mCons (mV 3) mNil))))))
    (mRet (mB fDiv (mB fMul (mB fIx (mV 4) (mC (.int 0))) (mCallO m__law_power (mCons (mCallO m__law_power (mCons (mV 0) (mCons (mV 1) mNil))) (mCons (mV 3) mNil)))) (mB fIx (mV 4) (mC (.int 1))))))
def m__law_own_count : MF := mDef 5 b__law_own_count
def b__law_sizes_right : MS :=
  (mSeq (mSet 3 (mCallO m_ore_numbers (mCons (mV 0) (mCons (mV 2) mNil))))
    (mSeq (mIfS (mTB (mB fNe (mV 3) (mCall bTuple (mCons (mCallO m__law_ore (mCons (mV 0) (mCons (mV 2) mNil))) mNil)))) (mRet (mC (.bl false))) mSkip)
    (mSeq (mAsg (.tup [(.name 4), (.name 5)]) (mTup (mCons (mC (.int 0)) (mCons (mC (.int 1)) mNil))))
    (mSeq (mFor 1000000 (mSeqW (mV 3)) (.name 6) (mSeq (mSet 7 (mCallO m_count_share (mCons (mV 0) (mCons (mV 1) (mCons (mV 2) (mCons (mV 6) mNil))))))
    (mSeq (mIfS (mOrT (mTB (mB fNe (mV 7) (mCallO m__law_share (mCons (mV 0) (mCons (mV 1) (mCons (mV 2) (mCons (mV 6) mNil))))))) (mTB (mB fNe (mCallO m_krasner_count (mCons (mV 0) (mCons (mV 1) (mCons (mV 2) (mCons (mV 6) mNil))))) (mCallO m__law_own_count (mCons (mV 0) (mCons (mV 1) (mCons (mV 2) (mCons (mV 6) mNil)))))))) (mRet (mC (.bl false))) mSkip)
    (mAsg (.tup [(.name 4), (.name 5)]) (mCallO m__law_lowest (mCons (mB fAdd (mB fMul (mV 4) (mB fIx (mV 7) (mC (.int 1)))) (mB fMul (mB fIx (mV 7) (mC (.int 0))) (mV 5))) (mCons (mB fMul (mV 5) (mB fIx (mV 7) (mC (.int 1)))) mNil)))))))
    (mRet (mB fEq (mTup (mCons (mV 4) (mCons (mV 5) mNil))) (mTup (mCons (mV 2) (mCons (mC (.int 1)) mNil)))))))))
def m__law_sizes_right : MF := mDef 8 b__law_sizes_right
def b__law_degree_right : MS :=
  (mSeq (mSet 2 (mC (.int 0)))
    (mSeq (mFor 1000000 (mWk fRange (mCons (mC (.int 1)) (mCons (mB fAdd (mV 1) (mC (.int 1))) mNil))) (.name 3) (mIfS (mTB (mB fEq (mB fMod (mV 1) (mV 3)) (mC (.int 0)))) (mSet 2 (mB fAdd (mV 2) (mCall bSum (mCons (mLc 1000000 (mSeqW (mCallO m__law_ore (mCons (mV 0) (mCons (mB fDiv (mV 1) (mV 3)) mNil)))) (.name 4) mYes (mCallO m__law_own_count (mCons (mV 0) (mCons (mV 3) (mCons (mB fDiv (mV 1) (mV 3)) (mCons (mV 4) mNil))))) [4]) mNil)))) mSkip))
    (mRet (mB fEq (mCallO m_closure_count (mCons (mV 0) (mCons (mV 1) mNil))) (mV 2)))))
def m__law_degree_right : MF := mDef 5 b__law_degree_right
def b_law : MS :=
  (mSeq (mFor 1000000 (mWk fRange (mCons (mCall bMax (mCons (mC (.int 1)) (mCons (mCall bMin (mCons (mCall bLen (mCons (mV 0) mNil)) (mCons (mC (.int 4)) mNil))) mNil))) mNil)) (.name 1) (mSeq (mSet 2 (mCallO m__law_dice (mCons (mV 0) (mCons (mV 1) mNil))))
    (mSeq (mSet 3 (mCallO m__law_one_of (mCons (mV 2) (mCons (mLst (mCons (mC (.int 2)) (mCons (mC (.int 2)) (mCons (mC (.int 3)) (mCons (mC (.int 3)) (mCons (mC (.int 5)) (mCons (mC (.int 7)) mNil))))))) mNil))))
    (mSeq (mPar3 4 5 6 (mCons (mB fAdd (mC (.int 1)) (mCallO m__law_roll (mCons (mV 2) (mCons (mC (.int 12)) mNil)))) (mCons (mB fAdd (mC (.int 1)) (mCallO m__law_roll (mCons (mV 2) (mCons (mC (.int 30)) mNil)))) (mCons (mB fAdd (mC (.int 1)) (mCallO m__law_roll (mCons (mV 2) (mCons (mC (.int 12)) mNil)))) mNil))))
    (mSeq (mIfS (mOrT (mNotT (mTru (mCallO m__law_sizes_right (mCons (mV 3) (mCons (mV 4) (mCons (mV 5) mNil)))))) (mNotT (mTru (mCallO m__law_sizes_right (mCons (mV 3) (mCons (mC (.int 1)) (mCons (mCallO m__law_one_of (mCons (mV 2) (mCons (mLst (mCons (mV 3) (mCons (mB fMul (mC (.int 2)) (mV 3)) (mCons (mC (.int 12)) (mCons (mC (.int 16)) (mCons (mC (.int 27)) mNil)))))) mNil))) mNil))))))) (mRet (mC (.bl false))) mSkip)
    (mSeq (mIfS (mNotT (mTru (mCallO m__law_degree_right (mCons (mV 3) (mCons (mV 6) mNil))))) (mRet (mC (.bl false))) mSkip)
    (mFor 1000000 (mSeqW (mB fAdd (mLst (mCons (mC .non) (mCons (mU fNeg (mC (.int 1))) (mCons (mC (.int 0)) (mCons (mC (.int 1)) (mCons (mC (.bl true)) (mCons (mC (.str "1")) (mCons (mTup (mCons (mC (.int 1)) mNil)) (mCons (mB fMul (mB fPow (mC (.int 10)) (mC (.int 40))) (mB fPow (mC (.int 10)) (mC (.int 40)))) (mCons (mC (.int 150)) (mCons (mLst (mCons (mC (.int 1)) mNil)) mNil))))))))))) (mB fLstRg2 (mC (.int 2)) (mC (.int 40))))) (.name 7) (mSeq (mSet 8 (mAndV (mCallO m__law_is_whole (mCons (mV 7) mNil)) (mB fIn (mV 7) (mCallO m__law_ore (mCons (mV 3) (mCons (mV 5) mNil))))))
    (mIfS (mTB (mB fNe (mCall bRepr (mCons (mCallO m_is_step_number (mCons (mV 3) (mCons (mV 5) (mCons (mV 7) mNil)))) mNil)) (mCall bRepr (mCons (mV 8) mNil)))) (mRet (mC (.bl false))) mSkip)))))))))
    (mRet (mB fEq (mLst (mCons (mCallO m_closure_count (mCons (mC (.int 2)) (mCons (mC (.int 2)) mNil))) (mCons (mCallO m_closure_count (mCons (mC (.int 3)) (mCons (mC (.int 2)) mNil))) (mCons (mCallO m_closure_count (mCons (mC (.int 3)) (mCons (mC (.int 3)) mNil))) mNil)))) (mLst (mCons (mC (.int 7)) (mCons (mC (.int 3)) (mCons (mC (.int 22)) mNil)))))))
def m_law : MF := mDef 9 b_law
/-! ### what the top has written -/
def gnm : Nat → Str := fun _ => "law"
def fnm : Nat → Str := fun _ => ""
abbrev CW (K : PySem.W.Frag) : Wd := Cw K gnm fnm
structure Tx (K : PySem.W.Frag) (mg : Str → Option Value) : Prop where
  n_abs : mg "abs" = none
  n_bool : mg "bool" = none
  n_divmod : mg "divmod" = none
  n_int : mg "int" = none
  n_isinstance : mg "isinstance" = none
  n_len : mg "len" = none
  n_list : mg "list" = none
  n_max : mg "max" = none
  n_min : mg "min" = none
  n_range : mg "range" = none
  n_repr : mg "repr" = none
  n_sum : mg "sum" = none
  n_tuple : mg "tuple" = none
  i_MOST_CLOSURE : ∃ t, mg "MOST_CLOSURE" = some (.int (12) t)
  i_MOST_PLAIN : ∃ t, mg "MOST_PLAIN" = some (.int (12) t)
  i_MOST_STEP : ∃ t, mg "MOST_STEP" = some (.int (30) t)
  i_SIXTY : ∃ t, mg "SIXTY" = some (.int (1000000000000000000000000000000000000000000000000000000000000) t)
  g_PRIMES : mg "PRIMES" = some (.ref (He.ga K "PRIMES"))
  t_PRIMES : ∀ H, SqT K H (He.ga K "PRIMES") (List.map V.int [(2), (3), (5), (7)])
  f_gcd : mg "gcd" = some (.builtin "math.gcd")
abbrev At (K : PySem.W.Frag) (mg : Str → Option Value) (x : Str) (i : Nat) : Prop := ∃ fd, FunD K x x (defArgs (top i)) (defBody (top i)) (defScope (top i)) [] [] (He.ga K x) fd ∧ mg x = some (.ref (He.ga K x))
structure Dx (K : PySem.W.Frag) (mg : Str → Option Value) : Prop where
  d_is_whole_number : At K mg "is_whole_number" 6
  d_is_integer : At K mg "is_integer" 7
  d_is_within : At K mg "is_within" 8
  d_power_of : At K mg "power_of" 9
  d_exponent_in : At K mg "exponent_in" 10
  d_ratio_in : At K mg "ratio_in" 11
  d_require_prime : At K mg "require_prime" 12
  d_require_within : At K mg "require_within" 13
  d_least_of_ore : At K mg "least_of_ore" 18
  d_ore_in : At K mg "ore_in" 19
  d_krasner_in : At K mg "krasner_in" 20
  d_closure_count_in : At K mg "closure_count_in" 21
  d_require_sizes : At K mg "require_sizes" 22
  d_is_step_in : At K mg "is_step_in" 24
  d_require_counted : At K mg "require_counted" 23
  d_ore_numbers : At K mg "ore_numbers" 25
  d_is_step_number : At K mg "is_step_number" 26
  d_krasner_count : At K mg "krasner_count" 27
  d_count_share : At K mg "count_share" 28
  d_closure_count : At K mg "closure_count" 29
  d__law_dice : At K mg "_law_dice" 31
  d__law_roll : At K mg "_law_roll" 32
  d__law_one_of : At K mg "_law_one_of" 33
  d__law_power : At K mg "_law_power" 34
  d__law_gcd : At K mg "_law_gcd" 35
  d__law_lowest : At K mg "_law_lowest" 36
  d__law_exponent : At K mg "_law_exponent" 37
  d__law_ore : At K mg "_law_ore" 38
  d__law_is_whole : At K mg "_law_is_whole" 39
  d__law_share : At K mg "_law_share" 40
  d__law_own_count : At K mg "_law_own_count" 41
  d__law_sizes_right : At K mg "_law_sizes_right" 42
  d__law_degree_right : At K mg "_law_degree_right" 43
  d_law : At K mg "law" 44
section
variable {P : Program} {w : World} {K : PySem.W.Frag} {mg : Str → Option Value} {base : Heap}
theorem sc_is_whole_number : FnScope ["value"] ["value"] (defScope (top 6)) := ⟨rfl, rfl, rfl, by decide +kernel, rfl, by decide +kernel, by decide +kernel⟩
theorem k_is_whole_number (T : Tx K mg) (D : Dx K mg) {fd : FuncData} (F : FunD K "is_whole_number" "is_whole_number" (defArgs (top 6)) (defBody (top 6)) (defScope (top 6)) [] [] (He.ga K "is_whole_number") fd) : FnOk P w K mg base (L2.CX P w) 1 (He.ga K "is_whole_number") fd ["value"] (spI (CW K) 1 m_is_whole_number) := by
  refine qf_def F sc_is_whole_number fun cdv A outer s H E hr => ?_
  have tk := takes_of (X := cxOf (L2.CX P w) P w K mg base ["value"] "is_whole_number" (defScope (top 6)) (He.ga K "is_whole_number") cdv A outer s H E) (E := E) rfl rfl rfl rfl
  show PSs _ _ (tS (CW K) b_is_whole_number _)
  exact (qs_one (qs_ret (qe_and (qisinst rfl T.n_isinstance (qa_cons (qv 0) (qa_cons (qe_ty (t := .int) rfl T.n_int (by decide +kernel)) qa_nil))) (qe_one (qe_not (qisinst rfl T.n_isinstance (qa_cons (qv 0) (qa_cons (qe_ty (t := .bool) rfl T.n_bool (by decide +kernel)) qa_nil))))))))
theorem o_is_whole_number (T : Tx K mg) (D : Dx K mg) : Ok P w K mg base (CW K) 1 "is_whole_number" ["value"] m_is_whole_number := by
  obtain ⟨fd, F, hm⟩ := D.d_is_whole_number
  exact ⟨fd, k_is_whole_number T D F, F.bindsN fun _ _ _ _ _ _ us hl => match us, hl with | [_], _ => rfl, F.kp, hm⟩
theorem sc_is_integer : FnScope ["value"] ["value"] (defScope (top 7)) := ⟨rfl, rfl, rfl, by decide +kernel, rfl, by decide +kernel, by decide +kernel⟩
theorem k_is_integer (T : Tx K mg) (D : Dx K mg) {fd : FuncData} (F : FunD K "is_integer" "is_integer" (defArgs (top 7)) (defBody (top 7)) (defScope (top 7)) [] [] (He.ga K "is_integer") fd) : FnOk P w K mg base (L2.CX P w) 2 (He.ga K "is_integer") fd ["value"] (spI (CW K) 1 m_is_integer) := by
  refine qf_def F sc_is_integer fun cdv A outer s H E hr => ?_
  have tk := takes_of (X := cxOf (L2.CX P w) P w K mg base ["value"] "is_integer" (defScope (top 7)) (He.ga K "is_integer") cdv A outer s H E) (E := E) rfl rfl rfl rfl
  show PSs _ _ (tS (CW K) b_is_integer _)
  exact (qs_one (qs_ret (qe_and (qe_fn (o_is_whole_number T D) tk hr (by decide) rfl (qa_cons (qv 0) qa_nil) (lenA_cons lenA_nil) rfl) (qe_one (qe_chain op_lt op_lt (fCmpI_ok _) (fCmpI_ok _) (qe_neg (qgint T.i_SIXTY)) (qv 0) (qgint T.i_SIXTY))))))
theorem o_is_integer (T : Tx K mg) (D : Dx K mg) : Ok P w K mg base (CW K) 2 "is_integer" ["value"] m_is_integer := by
  obtain ⟨fd, F, hm⟩ := D.d_is_integer
  exact ⟨fd, k_is_integer T D F, F.bindsN fun _ _ _ _ _ _ us hl => match us, hl with | [_], _ => rfl, F.kp, hm⟩
theorem sc_is_within : FnScope ["value", "least", "most"] ["value", "least", "most"] (defScope (top 8)) := ⟨rfl, rfl, rfl, by decide +kernel, rfl, by decide +kernel, by decide +kernel⟩
theorem k_is_within (T : Tx K mg) (D : Dx K mg) {fd : FuncData} (F : FunD K "is_within" "is_within" (defArgs (top 8)) (defBody (top 8)) (defScope (top 8)) [] [] (He.ga K "is_within") fd) : FnOk P w K mg base (L2.CX P w) 2 (He.ga K "is_within") fd ["value", "least", "most"] (spI (CW K) 3 m_is_within) := by
  refine qf_def F sc_is_within fun cdv A outer s H E hr => ?_
  have tk := takes_of (X := cxOf (L2.CX P w) P w K mg base ["value", "least", "most"] "is_within" (defScope (top 8)) (He.ga K "is_within") cdv A outer s H E) (E := E) rfl rfl rfl rfl
  show PSs _ _ (tS (CW K) b_is_within _)
  exact (qs_one (qs_ret (qe_and (qe_fn (o_is_whole_number T D) tk hr (by decide) rfl (qa_cons (qv 0) qa_nil) (lenA_cons lenA_nil) rfl) (qe_one (qe_chain op_le op_le (fCmpI_ok _) (fCmpI_ok _) (qv 1) (qv 0) (qv 2))))))
theorem o_is_within (T : Tx K mg) (D : Dx K mg) : Ok P w K mg base (CW K) 2 "is_within" ["value", "least", "most"] m_is_within := by
  obtain ⟨fd, F, hm⟩ := D.d_is_within
  exact ⟨fd, k_is_within T D F, F.bindsN fun _ _ _ _ _ _ us hl => match us, hl with | [_, _, _], _ => rfl, F.kp, hm⟩
theorem sc_power_of : FnScope ["base", "count", "found", "square", "left"] ["base", "count"] (defScope (top 9)) := ⟨rfl, rfl, rfl, by decide +kernel, rfl, by decide +kernel, by decide +kernel⟩
theorem k_power_of (T : Tx K mg) (D : Dx K mg) {fd : FuncData} (F : FunD K "power_of" "power_of" (defArgs (top 9)) (defBody (top 9)) (defScope (top 9)) [] [] (He.ga K "power_of") fd) : FnOk P w K mg base (L2.CX P w) 1 (He.ga K "power_of") fd ["base", "count"] (spI (CW K) 2 m_power_of) := by
  refine qf_def F sc_power_of fun cdv A outer s H E hr => ?_
  have tk := takes_of (X := cxOf (L2.CX P w) P w K mg base ["base", "count", "found", "square", "left"] "power_of" (defScope (top 9)) (He.ga K "power_of") cdv A outer s H E) (E := E) rfl rfl rfl rfl
  show PSs _ _ (tS (CW K) b_power_of _)
  exact (qs_cons (qs_par3 (i := 2) (j := 3) (l := 4) rfl sc_power_of.nd rfl rfl rfl (by decide) (by decide) (by decide) rfl rfl rfl (qa_cons qe_int (qa_cons (qv 0) (qa_cons (qv 1) qa_nil))) rfl)
    (qs_cons (qs_while 100000 (passes_of rfl) (qtcmp op_gt (fCmpI_ok _) (qv 4) qe_int) (qs_cons (qs_if (qtcmp (op_eqK rfl (u64 hr)) fEq_ok (qe_mod (qv 4) qe_int) qe_int) (qs_one (qset 2 sc_power_of.nd (qe_mul rfl (qv 2) (qv 3)))) qs_nil)
    (qs_cons (qset 4 sc_power_of.nd (qe_div (qv 4) qe_int))
    (qs_one (qset 3 sc_power_of.nd (qe_if (qtcmp op_gt (fCmpI_ok _) (qv 4) qe_int) (qe_mul rfl (qv 3) (qv 3)) (qv 3)))))))
    (qs_one (qs_ret (qv 2)))))
theorem o_power_of (T : Tx K mg) (D : Dx K mg) : Ok P w K mg base (CW K) 1 "power_of" ["base", "count"] m_power_of := by
  obtain ⟨fd, F, hm⟩ := D.d_power_of
  exact ⟨fd, k_power_of T D F, F.bindsN fun _ _ _ _ _ _ us hl => match us, hl with | [_, _], _ => rfl, F.kp, hm⟩
theorem sc_exponent_in : FnScope ["prime", "integer", "found"] ["prime", "integer"] (defScope (top 10)) := ⟨rfl, rfl, rfl, by decide +kernel, rfl, by decide +kernel, by decide +kernel⟩
theorem k_exponent_in (T : Tx K mg) (D : Dx K mg) {fd : FuncData} (F : FunD K "exponent_in" "exponent_in" (defArgs (top 10)) (defBody (top 10)) (defScope (top 10)) [] [] (He.ga K "exponent_in") fd) : FnOk P w K mg base (L2.CX P w) 1 (He.ga K "exponent_in") fd ["prime", "integer"] (spI (CW K) 2 m_exponent_in) := by
  refine qf_def F sc_exponent_in fun cdv A outer s H E hr => ?_
  have tk := takes_of (X := cxOf (L2.CX P w) P w K mg base ["prime", "integer", "found"] "exponent_in" (defScope (top 10)) (He.ga K "exponent_in") cdv A outer s H E) (E := E) rfl rfl rfl rfl
  show PSs _ _ (tS (CW K) b_exponent_in _)
  exact (qs_cons (qset 2 sc_exponent_in.nd qe_int)
    (qs_cons (qs_while 100000 (passes_of rfl) (qtcmp (op_eqK rfl (u64 hr)) fEq_ok (qe_mod (qv 1) (qv 0)) qe_int) (qs_cons (qaug 1 sc_exponent_in.nd (ip_of iop_fdiv) fDivS_ok (qv 0))
    (qs_one (qaug 2 sc_exponent_in.nd (ip_of iop_add) fAddI_ok qe_int))))
    (qs_one (qs_ret (qv 2)))))
theorem o_exponent_in (T : Tx K mg) (D : Dx K mg) : Ok P w K mg base (CW K) 1 "exponent_in" ["prime", "integer"] m_exponent_in := by
  obtain ⟨fd, F, hm⟩ := D.d_exponent_in
  exact ⟨fd, k_exponent_in T D F, F.bindsN fun _ _ _ _ _ _ us hl => match us, hl with | [_, _], _ => rfl, F.kp, hm⟩
theorem sc_ratio_in : FnScope ["top", "bottom", "part"] ["top", "bottom"] (defScope (top 11)) := ⟨rfl, rfl, rfl, by decide +kernel, rfl, by decide +kernel, by decide +kernel⟩
theorem k_ratio_in (T : Tx K mg) (D : Dx K mg) {fd : FuncData} (F : FunD K "ratio_in" "ratio_in" (defArgs (top 11)) (defBody (top 11)) (defScope (top 11)) [] [] (He.ga K "ratio_in") fd) : FnOk P w K mg base (L2.CX P w) 1 (He.ga K "ratio_in") fd ["top", "bottom"] (spI (CW K) 2 m_ratio_in) := by
  refine qf_def F sc_ratio_in fun cdv A outer s H E hr => ?_
  have tk := takes_of (X := cxOf (L2.CX P w) P w K mg base ["top", "bottom", "part"] "ratio_in" (defScope (top 11)) (He.ga K "ratio_in") cdv A outer s H E) (E := E) rfl rfl rfl rfl
  show PSs _ _ (tS (CW K) b_ratio_in _)
  exact (qs_cons (qset 2 sc_ratio_in.nd (qe_if (qtcmp op_gt (fCmpI_ok _) (qv 1) qe_int) (qgcd T.f_gcd (qa_cons (qv 0) (qa_cons (qv 1) qa_nil))) (qe_neg (qgcd T.f_gcd (qa_cons (qv 0) (qa_cons (qv 1) qa_nil))))))
    (qs_one (qs_ret (qe_tup (qa_cons (qe_div (qv 0) (qv 2)) (qa_cons (qe_div (qv 1) (qv 2)) qa_nil))))))
theorem o_ratio_in (T : Tx K mg) (D : Dx K mg) : Ok P w K mg base (CW K) 1 "ratio_in" ["top", "bottom"] m_ratio_in := by
  obtain ⟨fd, F, hm⟩ := D.d_ratio_in
  exact ⟨fd, k_ratio_in T D F, F.bindsN fun _ _ _ _ _ _ us hl => match us, hl with | [_, _], _ => rfl, F.kp, hm⟩
theorem sc_require_prime : FnScope ["prime"] ["prime"] (defScope (top 12)) := ⟨rfl, rfl, rfl, by decide +kernel, rfl, by decide +kernel, by decide +kernel⟩
theorem k_require_prime (T : Tx K mg) (D : Dx K mg) {fd : FuncData} (F : FunD K "require_prime" "require_prime" (defArgs (top 12)) (defBody (top 12)) (defScope (top 12)) [] [] (He.ga K "require_prime") fd) : FnOk P w K mg base (L2.CX P w) 3 (He.ga K "require_prime") fd ["prime"] (spI (CW K) 1 m_require_prime) := by
  refine qf_def F sc_require_prime fun cdv A outer s H E hr => ?_
  have tk := takes_of (X := cxOf (L2.CX P w) P w K mg base ["prime"] "require_prime" (defScope (top 12)) (He.ga K "require_prime") cdv A outer s H E) (E := E) rfl rfl rfl rfl
  show PSs _ _ (tS (CW K) b_require_prime _)
  exact (qs_one (qs_if (qt_w (qw_or (qt_not (qt_truth rfl (qe_fn (o_is_integer T D) tk hr (by decide) rfl (qa_cons (qv 0) qa_nil) (lenA_cons lenA_nil) rfl))) (qw_or1 (qtcmp (op_notInK rfl (u65 hr)) fNotIn_ok (qv 0) (qgtup T.g_PRIMES T.t_PRIMES))))) (qs_one qs_stuck) qs_nil))
theorem o_require_prime (T : Tx K mg) (D : Dx K mg) : Ok P w K mg base (CW K) 3 "require_prime" ["prime"] m_require_prime := by
  obtain ⟨fd, F, hm⟩ := D.d_require_prime
  exact ⟨fd, k_require_prime T D F, F.bindsN fun _ _ _ _ _ _ us hl => match us, hl with | [_], _ => rfl, F.kp, hm⟩
theorem sc_require_within : FnScope ["value", "least", "most"] ["value", "least", "most"] (defScope (top 13)) := ⟨rfl, rfl, rfl, by decide +kernel, rfl, by decide +kernel, by decide +kernel⟩
theorem k_require_within (T : Tx K mg) (D : Dx K mg) {fd : FuncData} (F : FunD K "require_within" "require_within" (defArgs (top 13)) (defBody (top 13)) (defScope (top 13)) [] [] (He.ga K "require_within") fd) : FnOk P w K mg base (L2.CX P w) 3 (He.ga K "require_within") fd ["value", "least", "most"] (spI (CW K) 3 m_require_within) := by
  refine qf_def F sc_require_within fun cdv A outer s H E hr => ?_
  have tk := takes_of (X := cxOf (L2.CX P w) P w K mg base ["value", "least", "most"] "require_within" (defScope (top 13)) (He.ga K "require_within") cdv A outer s H E) (E := E) rfl rfl rfl rfl
  show PSs _ _ (tS (CW K) b_require_within _)
  exact (qs_one (qs_if (qt_not (qt_truth rfl (qe_fn (o_is_within T D) tk hr (by decide) rfl (qa_cons (qv 0) (qa_cons (qv 1) (qa_cons (qv 2) qa_nil))) (lenA_cons (lenA_cons (lenA_cons lenA_nil))) rfl))) (qs_one qs_stuck) qs_nil))
theorem o_require_within (T : Tx K mg) (D : Dx K mg) : Ok P w K mg base (CW K) 3 "require_within" ["value", "least", "most"] m_require_within := by
  obtain ⟨fd, F, hm⟩ := D.d_require_within
  exact ⟨fd, k_require_within T D F, F.bindsN fun _ _ _ _ _ _ us hl => match us, hl with | [_, _, _], _ => rfl, F.kp, hm⟩
theorem sc_least_of_ore : FnScope ["prime", "step_size", "number", "rest", "highest"] ["prime", "step_size", "number"] (defScope (top 18)) := ⟨rfl, rfl, rfl, by decide +kernel, rfl, by decide +kernel, by decide +kernel⟩
theorem k_least_of_ore (T : Tx K mg) (D : Dx K mg) {fd : FuncData} (F : FunD K "least_of_ore" "least_of_ore" (defArgs (top 18)) (defBody (top 18)) (defScope (top 18)) [] [] (He.ga K "least_of_ore") fd) : FnOk P w K mg base (L2.CX P w) 2 (He.ga K "least_of_ore") fd ["prime", "step_size", "number"] (spI (CW K) 3 m_least_of_ore) := by
  refine qf_def F sc_least_of_ore fun cdv A outer s H E hr => ?_
  have tk := takes_of (X := cxOf (L2.CX P w) P w K mg base ["prime", "step_size", "number", "rest", "highest"] "least_of_ore" (defScope (top 18)) (He.ga K "least_of_ore") cdv A outer s H E) (E := E) rfl rfl rfl rfl
  show PSs _ _ (tS (CW K) b_least_of_ore _)
  exact (qs_cons (qs_par (i := 3) (j := 4) rfl sc_least_of_ore.nd rfl rfl (by decide) rfl rfl (qa_cons (qe_mod (qv 2) (qv 1)) (qa_cons (qe_mul rfl (qv 1) (qe_fn (o_exponent_in T D) tk hr (by decide) rfl (qa_cons (qv 0) (qa_cons (qv 1) qa_nil)) (lenA_cons (lenA_cons lenA_nil)) rfl)) qa_nil)) rfl)
    (qs_one (qs_ret (qe_if (qtcmp (op_eqK rfl (u64 hr)) fEq_ok (qv 3) qe_int) (qv 4) (qmin rfl rfl T.n_min (qa_cons (qe_mul rfl (qv 1) (qe_fn (o_exponent_in T D) tk hr (by decide) rfl (qa_cons (qv 0) (qa_cons (qv 3) qa_nil)) (lenA_cons (lenA_cons lenA_nil)) rfl)) (qa_cons (qv 4) qa_nil)))))))
theorem o_least_of_ore (T : Tx K mg) (D : Dx K mg) : Ok P w K mg base (CW K) 2 "least_of_ore" ["prime", "step_size", "number"] m_least_of_ore := by
  obtain ⟨fd, F, hm⟩ := D.d_least_of_ore
  exact ⟨fd, k_least_of_ore T D F, F.bindsN fun _ _ _ _ _ _ us hl => match us, hl with | [_, _, _], _ => rfl, F.kp, hm⟩
theorem sc_ore_in : FnScope ["prime", "step_size", "highest", "number"] ["prime", "step_size"] (defScope (top 19)) := ⟨rfl, rfl, rfl, by decide +kernel, rfl, by decide +kernel, by decide +kernel⟩
theorem k_ore_in (T : Tx K mg) (D : Dx K mg) {fd : FuncData} (F : FunD K "ore_in" "ore_in" (defArgs (top 19)) (defBody (top 19)) (defScope (top 19)) [] [] (He.ga K "ore_in") fd) : FnOk P w K mg base (L2.CX P w) 3 (He.ga K "ore_in") fd ["prime", "step_size"] (spI (CW K) 2 m_ore_in) := by
  refine qf_def F sc_ore_in fun cdv A outer s H E hr => ?_
  have tk := takes_of (X := cxOf (L2.CX P w) P w K mg base ["prime", "step_size", "highest", "number"] "ore_in" (defScope (top 19)) (He.ga K "ore_in") cdv A outer s H E) (E := E) rfl rfl rfl rfl
  show PSs _ _ (tS (CW K) b_ore_in _)
  exact (qs_cons (qset 2 sc_ore_in.nd (qe_mul rfl (qv 1) (qe_fn (o_exponent_in T D) tk hr (by decide) rfl (qa_cons (qv 0) (qa_cons (qv 1) qa_nil)) (lenA_cons (lenA_cons lenA_nil)) rfl)))
    (qs_one (qs_ret (qe_lc (own := [("number", 3)]) 1000000 (by decide) rfl sc_ore_in.nd (qi_range1 rfl T.n_range (qa_cons (qe_add rfl (qv 2) qe_int) qa_nil) (hn := (lenA_cons lenA_nil))) (blkOk_by (N := ["prime", "step_size", "highest", "number"]) (sc := defScope (top 19)) (by decide +kernel)) (by decide) (fun _ _ _ _ _ => (qg 3 sc_ore_in.nd)) (fun _ _ _ _ _ => (qts_one (qtcmp op_le (fCmpI_ok _) (qe_fn (o_least_of_ore T D) takes0 hr (by decide) rfl (qa_cons (qv 0) (qa_cons (qv 1) (qa_cons (qv 3) qa_nil))) (lenA_cons (lenA_cons (lenA_cons lenA_nil))) rfl) (qv 3)))) (fun _ _ _ _ _ => (qv 3))))))
theorem o_ore_in (T : Tx K mg) (D : Dx K mg) : Ok P w K mg base (CW K) 3 "ore_in" ["prime", "step_size"] m_ore_in := by
  obtain ⟨fd, F, hm⟩ := D.d_ore_in
  exact ⟨fd, k_ore_in T D F, F.bindsN fun _ _ _ _ _ _ us hl => match us, hl with | [_, _], _ => rfl, F.kp, hm⟩
theorem sc_krasner_in : FnScope ["prime", "plain_size", "step_size", "number", "turns", "rest", "residues", "power", "i"] ["prime", "plain_size", "step_size", "number"] (defScope (top 20)) := ⟨rfl, rfl, rfl, by decide +kernel, rfl, by decide +kernel, by decide +kernel⟩
theorem k_krasner_in (T : Tx K mg) (D : Dx K mg) {fd : FuncData} (F : FunD K "krasner_in" "krasner_in" (defArgs (top 20)) (defBody (top 20)) (defScope (top 20)) [] [] (He.ga K "krasner_in") fd) : FnOk P w K mg base (L2.CX P w) 2 (He.ga K "krasner_in") fd ["prime", "plain_size", "step_size", "number"] (spI (CW K) 4 m_krasner_in) := by
  refine qf_def F sc_krasner_in fun cdv A outer s H E hr => ?_
  have tk := takes_of (X := cxOf (L2.CX P w) P w K mg base ["prime", "plain_size", "step_size", "number", "turns", "rest", "residues", "power", "i"] "krasner_in" (defScope (top 20)) (He.ga K "krasner_in") cdv A outer s H E) (E := E) rfl rfl rfl rfl
  show PSs _ _ (tS (CW K) b_krasner_in _)
  exact (qs_cons (qs_asg (qdivmod  T.n_divmod (qa_cons (qv 3) (qa_cons (qv 2) qa_nil))) (qg_tup rfl rfl (qgs_cons (qg 4 sc_krasner_in.nd) (qgs_cons (qg 5 sc_krasner_in.nd) qgs_nil)) rfl))
    (qs_cons (qset 6 sc_krasner_in.nd (qe_fn (o_power_of T D) tk hr (by decide) rfl (qa_cons (qv 0) (qa_cons (qv 1) qa_nil)) (lenA_cons (lenA_cons lenA_nil)) rfl))
    (qs_cons (qset 7 sc_krasner_in.nd (qsum rfl rfl T.n_sum (qa_cons (qe_lc (own := [("i", 8)]) 1000000 (by decide) rfl sc_krasner_in.nd (qi_range2 rfl T.n_range (qa_cons qe_int (qa_cons (qe_add rfl (qv 4) qe_int) qa_nil)) (hn := (lenA_cons (lenA_cons lenA_nil)))) (blkOk_by (N := ["prime", "plain_size", "step_size", "number", "turns", "rest", "residues", "power", "i"]) (sc := defScope (top 20)) (by decide +kernel)) (by decide) (fun _ _ _ _ _ => (qg 8 sc_krasner_in.nd)) (fun _ _ _ _ _ => qts_nil) (fun _ _ _ _ _ => (qe_div (qv 2) (qe_fn (o_power_of T D) takes0 hr (by decide) rfl (qa_cons (qv 0) (qa_cons (qv 8) qa_nil)) (lenA_cons (lenA_cons lenA_nil)) rfl)))) qa_nil)))
    (qs_cons (qs_if (qtcmp (op_eqK rfl (u64 hr)) fEq_ok (qv 5) qe_int) (qs_one (qs_ret (qe_mul rfl (qv 2) (qe_fn (o_power_of T D) tk hr (by decide) rfl (qa_cons (qv 6) (qa_cons (qv 7) qa_nil)) (lenA_cons (lenA_cons lenA_nil)) rfl)))) qs_nil)
    (qs_one (qs_ret (qe_mul rfl (qe_mul rfl (qv 2) (qe_sub (qv 6) qe_int)) (qe_fn (o_power_of T D) tk hr (by decide) rfl (qa_cons (qv 6) (qa_cons (qe_add rfl (qv 7) (qe_div (qe_sub (qv 5) qe_int) (qe_fn (o_power_of T D) tk hr (by decide) rfl (qa_cons (qv 0) (qa_cons (qe_add rfl (qv 4) qe_int) qa_nil)) (lenA_cons (lenA_cons lenA_nil)) rfl))) qa_nil)) (lenA_cons (lenA_cons lenA_nil)) rfl))))))))
theorem o_krasner_in (T : Tx K mg) (D : Dx K mg) : Ok P w K mg base (CW K) 2 "krasner_in" ["prime", "plain_size", "step_size", "number"] m_krasner_in := by
  obtain ⟨fd, F, hm⟩ := D.d_krasner_in
  exact ⟨fd, k_krasner_in T D F, F.bindsN fun _ _ _ _ _ _ us hl => match us, hl with | [_, _, _, _], _ => rfl, F.kp, hm⟩
theorem sc_closure_count_in : FnScope ["prime", "degree", "found", "plain_size", "step_size", "number"] ["prime", "degree"] (defScope (top 21)) := ⟨rfl, rfl, rfl, by decide +kernel, rfl, by decide +kernel, by decide +kernel⟩
theorem k_closure_count_in (T : Tx K mg) (D : Dx K mg) {fd : FuncData} (F : FunD K "closure_count_in" "closure_count_in" (defArgs (top 21)) (defBody (top 21)) (defScope (top 21)) [] [] (He.ga K "closure_count_in") fd) : FnOk P w K mg base (L2.CX P w) 4 (He.ga K "closure_count_in") fd ["prime", "degree"] (spI (CW K) 2 m_closure_count_in) := by
  refine qf_def F sc_closure_count_in fun cdv A outer s H E hr => ?_
  have tk := takes_of (X := cxOf (L2.CX P w) P w K mg base ["prime", "degree", "found", "plain_size", "step_size", "number"] "closure_count_in" (defScope (top 21)) (He.ga K "closure_count_in") cdv A outer s H E) (E := E) rfl rfl rfl rfl
  show PSs _ _ (tS (CW K) b_closure_count_in _)
  exact (qs_cons (qset 2 sc_closure_count_in.nd qe_int)
    (qs_cons (qs_for 1000000 (passes_of rfl) rfl (qi_range2 rfl T.n_range (qa_cons qe_int (qa_cons (qe_add rfl (qv 1) qe_int) qa_nil)) (hn := (lenA_cons (lenA_cons lenA_nil)))) (qg 3 sc_closure_count_in.nd) (qs_one (qs_if (qtcmp (op_eqK rfl (u64 hr)) fEq_ok (qe_mod (qv 1) (qv 3)) qe_int) (qs_cons (qset 4 sc_closure_count_in.nd (qe_div (qv 1) (qv 3)))
    (qs_one (qaug 2 sc_closure_count_in.nd (ip_of iop_add) fAddI_ok (qsum rfl rfl T.n_sum (qa_cons (qe_lc (own := [("number", 5)]) 1000000 (by decide) rfl sc_closure_count_in.nd (qi_seq rfl (qe_fn (o_ore_in T D) tk hr (by decide) rfl (qa_cons (qv 0) (qa_cons (qv 4) qa_nil)) (lenA_cons (lenA_cons lenA_nil)) rfl)) (blkOk_by (N := ["prime", "degree", "found", "plain_size", "step_size", "number"]) (sc := defScope (top 21)) (by decide +kernel)) (by decide) (fun _ _ _ _ _ => (qg 5 sc_closure_count_in.nd)) (fun _ _ _ _ _ => qts_nil) (fun _ _ _ _ _ => (qe_fn (o_krasner_in T D) takes0 hr (by decide) rfl (qa_cons (qv 0) (qa_cons (qv 3) (qa_cons (qv 4) (qa_cons (qv 5) qa_nil)))) (lenA_cons (lenA_cons (lenA_cons (lenA_cons lenA_nil)))) rfl))) qa_nil))))) qs_nil)))
    (qs_one (qs_ret (qv 2)))))
theorem o_closure_count_in (T : Tx K mg) (D : Dx K mg) : Ok P w K mg base (CW K) 4 "closure_count_in" ["prime", "degree"] m_closure_count_in := by
  obtain ⟨fd, F, hm⟩ := D.d_closure_count_in
  exact ⟨fd, k_closure_count_in T D F, F.bindsN fun _ _ _ _ _ _ us hl => match us, hl with | [_, _], _ => rfl, F.kp, hm⟩
theorem sc_require_sizes : FnScope ["prime", "plain_size", "step_size"] ["prime", "plain_size", "step_size"] (defScope (top 22)) := ⟨rfl, rfl, rfl, by decide +kernel, rfl, by decide +kernel, by decide +kernel⟩
theorem k_require_sizes (T : Tx K mg) (D : Dx K mg) {fd : FuncData} (F : FunD K "require_sizes" "require_sizes" (defArgs (top 22)) (defBody (top 22)) (defScope (top 22)) [] [] (He.ga K "require_sizes") fd) : FnOk P w K mg base (L2.CX P w) 4 (He.ga K "require_sizes") fd ["prime", "plain_size", "step_size"] (spI (CW K) 3 m_require_sizes) := by
  refine qf_def F sc_require_sizes fun cdv A outer s H E hr => ?_
  have tk := takes_of (X := cxOf (L2.CX P w) P w K mg base ["prime", "plain_size", "step_size"] "require_sizes" (defScope (top 22)) (He.ga K "require_sizes") cdv A outer s H E) (E := E) rfl rfl rfl rfl
  show PSs _ _ (tS (CW K) b_require_sizes _)
  exact (qs_cons (qs_expr (qe_fn (o_require_prime T D) tk hr (by decide) rfl (qa_cons (qv 0) qa_nil) (lenA_cons lenA_nil) rfl))
    (qs_cons (qs_expr (qe_fn (o_require_within T D) tk hr (by decide) rfl (qa_cons (qv 1) (qa_cons qe_int (qa_cons (qgint T.i_MOST_PLAIN) qa_nil))) (lenA_cons (lenA_cons (lenA_cons lenA_nil))) rfl))
    (qs_one (qs_expr (qe_fn (o_require_within T D) tk hr (by decide) rfl (qa_cons (qv 2) (qa_cons qe_int (qa_cons (qgint T.i_MOST_STEP) qa_nil))) (lenA_cons (lenA_cons (lenA_cons lenA_nil))) rfl)))))
theorem o_require_sizes (T : Tx K mg) (D : Dx K mg) : Ok P w K mg base (CW K) 4 "require_sizes" ["prime", "plain_size", "step_size"] m_require_sizes := by
  obtain ⟨fd, F, hm⟩ := D.d_require_sizes
  exact ⟨fd, k_require_sizes T D F, F.bindsN fun _ _ _ _ _ _ us hl => match us, hl with | [_, _, _], _ => rfl, F.kp, hm⟩
theorem sc_is_step_in : FnScope ["prime", "step_size", "value", "highest"] ["prime", "step_size", "value"] (defScope (top 24)) := ⟨rfl, rfl, rfl, by decide +kernel, rfl, by decide +kernel, by decide +kernel⟩
theorem k_is_step_in (T : Tx K mg) (D : Dx K mg) {fd : FuncData} (F : FunD K "is_step_in" "is_step_in" (defArgs (top 24)) (defBody (top 24)) (defScope (top 24)) [] [] (He.ga K "is_step_in") fd) : FnOk P w K mg base (L2.CX P w) 3 (He.ga K "is_step_in") fd ["prime", "step_size", "value"] (spI (CW K) 3 m_is_step_in) := by
  refine qf_def F sc_is_step_in fun cdv A outer s H E hr => ?_
  have tk := takes_of (X := cxOf (L2.CX P w) P w K mg base ["prime", "step_size", "value", "highest"] "is_step_in" (defScope (top 24)) (He.ga K "is_step_in") cdv A outer s H E) (E := E) rfl rfl rfl rfl
  show PSs _ _ (tS (CW K) b_is_step_in _)
  exact (qs_cons (qset 3 sc_is_step_in.nd (qe_mul rfl (qv 1) (qe_fn (o_exponent_in T D) tk hr (by decide) rfl (qa_cons (qv 0) (qa_cons (qv 1) qa_nil)) (lenA_cons (lenA_cons lenA_nil)) rfl)))
    (qs_one (qs_ret (qe_and (qe_fn (o_is_within T D) tk hr (by decide) rfl (qa_cons (qv 2) (qa_cons qe_int (qa_cons (qv 3) qa_nil))) (lenA_cons (lenA_cons (lenA_cons lenA_nil))) rfl) (qe_one (qcmp op_le (fCmpI_ok _) (qe_fn (o_least_of_ore T D) tk hr (by decide) rfl (qa_cons (qv 0) (qa_cons (qv 1) (qa_cons (qv 2) qa_nil))) (lenA_cons (lenA_cons (lenA_cons lenA_nil))) rfl) (qv 2)))))))
theorem o_is_step_in (T : Tx K mg) (D : Dx K mg) : Ok P w K mg base (CW K) 3 "is_step_in" ["prime", "step_size", "value"] m_is_step_in := by
  obtain ⟨fd, F, hm⟩ := D.d_is_step_in
  exact ⟨fd, k_is_step_in T D F, F.bindsN fun _ _ _ _ _ _ us hl => match us, hl with | [_, _, _], _ => rfl, F.kp, hm⟩
theorem sc_require_counted : FnScope ["prime", "plain_size", "step_size", "number"] ["prime", "plain_size", "step_size", "number"] (defScope (top 23)) := ⟨rfl, rfl, rfl, by decide +kernel, rfl, by decide +kernel, by decide +kernel⟩
theorem k_require_counted (T : Tx K mg) (D : Dx K mg) {fd : FuncData} (F : FunD K "require_counted" "require_counted" (defArgs (top 23)) (defBody (top 23)) (defScope (top 23)) [] [] (He.ga K "require_counted") fd) : FnOk P w K mg base (L2.CX P w) 5 (He.ga K "require_counted") fd ["prime", "plain_size", "step_size", "number"] (spI (CW K) 4 m_require_counted) := by
  refine qf_def F sc_require_counted fun cdv A outer s H E hr => ?_
  have tk := takes_of (X := cxOf (L2.CX P w) P w K mg base ["prime", "plain_size", "step_size", "number"] "require_counted" (defScope (top 23)) (He.ga K "require_counted") cdv A outer s H E) (E := E) rfl rfl rfl rfl
  show PSs _ _ (tS (CW K) b_require_counted _)
  exact (qs_cons (qs_expr (qe_fn (o_require_sizes T D) tk hr (by decide) rfl (qa_cons (qv 0) (qa_cons (qv 1) (qa_cons (qv 2) qa_nil))) (lenA_cons (lenA_cons (lenA_cons lenA_nil))) rfl))
    (qs_one (qs_if (qt_not (qt_truth rfl (qe_fn (o_is_step_in T D) tk hr (by decide) rfl (qa_cons (qv 0) (qa_cons (qv 2) (qa_cons (qv 3) qa_nil))) (lenA_cons (lenA_cons (lenA_cons lenA_nil))) rfl))) (qs_one qs_stuck) qs_nil)))
theorem o_require_counted (T : Tx K mg) (D : Dx K mg) : Ok P w K mg base (CW K) 5 "require_counted" ["prime", "plain_size", "step_size", "number"] m_require_counted := by
  obtain ⟨fd, F, hm⟩ := D.d_require_counted
  exact ⟨fd, k_require_counted T D F, F.bindsN fun _ _ _ _ _ _ us hl => match us, hl with | [_, _, _, _], _ => rfl, F.kp, hm⟩
theorem sc_ore_numbers : FnScope ["prime", "step_size"] ["prime", "step_size"] (defScope (top 25)) := ⟨rfl, rfl, rfl, by decide +kernel, rfl, by decide +kernel, by decide +kernel⟩
theorem k_ore_numbers (T : Tx K mg) (D : Dx K mg) {fd : FuncData} (F : FunD K "ore_numbers" "ore_numbers" (defArgs (top 25)) (defBody (top 25)) (defScope (top 25)) [] [] (He.ga K "ore_numbers") fd) : FnOk P w K mg base (L2.CX P w) 4 (He.ga K "ore_numbers") fd ["prime", "step_size"] (spI (CW K) 2 m_ore_numbers) := by
  refine qf_def F sc_ore_numbers fun cdv A outer s H E hr => ?_
  have tk := takes_of (X := cxOf (L2.CX P w) P w K mg base ["prime", "step_size"] "ore_numbers" (defScope (top 25)) (He.ga K "ore_numbers") cdv A outer s H E) (E := E) rfl rfl rfl rfl
  show PSs _ _ (tS (CW K) b_ore_numbers _)
  exact (qs_cons (qs_expr (qe_fn (o_require_prime T D) tk hr (by decide) rfl (qa_cons (qv 0) qa_nil) (lenA_cons lenA_nil) rfl))
    (qs_cons (qs_expr (qe_fn (o_require_within T D) tk hr (by decide) rfl (qa_cons (qv 1) (qa_cons qe_int (qa_cons (qgint T.i_MOST_STEP) qa_nil))) (lenA_cons (lenA_cons (lenA_cons lenA_nil))) rfl))
    (qs_one (qs_ret (qtuple rfl T.n_tuple (qa_cons (qe_fn (o_ore_in T D) tk hr (by decide) rfl (qa_cons (qv 0) (qa_cons (qv 1) qa_nil)) (lenA_cons (lenA_cons lenA_nil)) rfl) qa_nil))))))
theorem o_ore_numbers (T : Tx K mg) (D : Dx K mg) : Ok P w K mg base (CW K) 4 "ore_numbers" ["prime", "step_size"] m_ore_numbers := by
  obtain ⟨fd, F, hm⟩ := D.d_ore_numbers
  exact ⟨fd, k_ore_numbers T D F, F.bindsN fun _ _ _ _ _ _ us hl => match us, hl with | [_, _], _ => rfl, F.kp, hm⟩
theorem sc_is_step_number : FnScope ["prime", "step_size", "value"] ["prime", "step_size", "value"] (defScope (top 26)) := ⟨rfl, rfl, rfl, by decide +kernel, rfl, by decide +kernel, by decide +kernel⟩
theorem k_is_step_number (T : Tx K mg) (D : Dx K mg) {fd : FuncData} (F : FunD K "is_step_number" "is_step_number" (defArgs (top 26)) (defBody (top 26)) (defScope (top 26)) [] [] (He.ga K "is_step_number") fd) : FnOk P w K mg base (L2.CX P w) 4 (He.ga K "is_step_number") fd ["prime", "step_size", "value"] (spI (CW K) 3 m_is_step_number) := by
  refine qf_def F sc_is_step_number fun cdv A outer s H E hr => ?_
  have tk := takes_of (X := cxOf (L2.CX P w) P w K mg base ["prime", "step_size", "value"] "is_step_number" (defScope (top 26)) (He.ga K "is_step_number") cdv A outer s H E) (E := E) rfl rfl rfl rfl
  show PSs _ _ (tS (CW K) b_is_step_number _)
  exact (qs_cons (qs_expr (qe_fn (o_require_prime T D) tk hr (by decide) rfl (qa_cons (qv 0) qa_nil) (lenA_cons lenA_nil) rfl))
    (qs_cons (qs_expr (qe_fn (o_require_within T D) tk hr (by decide) rfl (qa_cons (qv 1) (qa_cons qe_int (qa_cons (qgint T.i_MOST_STEP) qa_nil))) (lenA_cons (lenA_cons (lenA_cons lenA_nil))) rfl))
    (qs_one (qs_ret (qe_fn (o_is_step_in T D) tk hr (by decide) rfl (qa_cons (qv 0) (qa_cons (qv 1) (qa_cons (qv 2) qa_nil))) (lenA_cons (lenA_cons (lenA_cons lenA_nil))) rfl)))))
theorem o_is_step_number (T : Tx K mg) (D : Dx K mg) : Ok P w K mg base (CW K) 4 "is_step_number" ["prime", "step_size", "value"] m_is_step_number := by
  obtain ⟨fd, F, hm⟩ := D.d_is_step_number
  exact ⟨fd, k_is_step_number T D F, F.bindsN fun _ _ _ _ _ _ us hl => match us, hl with | [_, _, _], _ => rfl, F.kp, hm⟩
theorem sc_krasner_count : FnScope ["prime", "plain_size", "step_size", "number"] ["prime", "plain_size", "step_size", "number"] (defScope (top 27)) := ⟨rfl, rfl, rfl, by decide +kernel, rfl, by decide +kernel, by decide +kernel⟩
theorem k_krasner_count (T : Tx K mg) (D : Dx K mg) {fd : FuncData} (F : FunD K "krasner_count" "krasner_count" (defArgs (top 27)) (defBody (top 27)) (defScope (top 27)) [] [] (He.ga K "krasner_count") fd) : FnOk P w K mg base (L2.CX P w) 6 (He.ga K "krasner_count") fd ["prime", "plain_size", "step_size", "number"] (spI (CW K) 4 m_krasner_count) := by
  refine qf_def F sc_krasner_count fun cdv A outer s H E hr => ?_
  have tk := takes_of (X := cxOf (L2.CX P w) P w K mg base ["prime", "plain_size", "step_size", "number"] "krasner_count" (defScope (top 27)) (He.ga K "krasner_count") cdv A outer s H E) (E := E) rfl rfl rfl rfl
  show PSs _ _ (tS (CW K) b_krasner_count _)
  exact (qs_cons (qs_expr (qe_fn (o_require_counted T D) tk hr (by decide) rfl (qa_cons (qv 0) (qa_cons (qv 1) (qa_cons (qv 2) (qa_cons (qv 3) qa_nil)))) (lenA_cons (lenA_cons (lenA_cons (lenA_cons lenA_nil)))) rfl))
    (qs_one (qs_ret (qe_fn (o_krasner_in T D) tk hr (by decide) rfl (qa_cons (qv 0) (qa_cons (qv 1) (qa_cons (qv 2) (qa_cons (qv 3) qa_nil)))) (lenA_cons (lenA_cons (lenA_cons (lenA_cons lenA_nil)))) rfl))))
theorem o_krasner_count (T : Tx K mg) (D : Dx K mg) : Ok P w K mg base (CW K) 6 "krasner_count" ["prime", "plain_size", "step_size", "number"] m_krasner_count := by
  obtain ⟨fd, F, hm⟩ := D.d_krasner_count
  exact ⟨fd, k_krasner_count T D F, F.bindsN fun _ _ _ _ _ _ us hl => match us, hl with | [_, _, _, _], _ => rfl, F.kp, hm⟩
theorem sc_count_share : FnScope ["prime", "plain_size", "step_size", "number"] ["prime", "plain_size", "step_size", "number"] (defScope (top 28)) := ⟨rfl, rfl, rfl, by decide +kernel, rfl, by decide +kernel, by decide +kernel⟩
theorem k_count_share (T : Tx K mg) (D : Dx K mg) {fd : FuncData} (F : FunD K "count_share" "count_share" (defArgs (top 28)) (defBody (top 28)) (defScope (top 28)) [] [] (He.ga K "count_share") fd) : FnOk P w K mg base (L2.CX P w) 6 (He.ga K "count_share") fd ["prime", "plain_size", "step_size", "number"] (spI (CW K) 4 m_count_share) := by
  refine qf_def F sc_count_share fun cdv A outer s H E hr => ?_
  have tk := takes_of (X := cxOf (L2.CX P w) P w K mg base ["prime", "plain_size", "step_size", "number"] "count_share" (defScope (top 28)) (He.ga K "count_share") cdv A outer s H E) (E := E) rfl rfl rfl rfl
  show PSs _ _ (tS (CW K) b_count_share _)
  exact (qs_cons (qs_expr (qe_fn (o_require_counted T D) tk hr (by decide) rfl (qa_cons (qv 0) (qa_cons (qv 1) (qa_cons (qv 2) (qa_cons (qv 3) qa_nil)))) (lenA_cons (lenA_cons (lenA_cons (lenA_cons lenA_nil)))) rfl))
    (qs_one (qs_ret (qe_fn (o_ratio_in T D) tk hr (by decide) rfl (qa_cons (qe_fn (o_krasner_in T D) tk hr (by decide) rfl (qa_cons (qv 0) (qa_cons (qv 1) (qa_cons (qv 2) (qa_cons (qv 3) qa_nil)))) (lenA_cons (lenA_cons (lenA_cons (lenA_cons lenA_nil)))) rfl) (qa_cons (qe_fn (o_power_of T D) tk hr (by decide) rfl (qa_cons (qe_fn (o_power_of T D) tk hr (by decide) rfl (qa_cons (qv 0) (qa_cons (qv 1) qa_nil)) (lenA_cons (lenA_cons lenA_nil)) rfl) (qa_cons (qv 3) qa_nil)) (lenA_cons (lenA_cons lenA_nil)) rfl) qa_nil)) (lenA_cons (lenA_cons lenA_nil)) rfl))))
theorem o_count_share (T : Tx K mg) (D : Dx K mg) : Ok P w K mg base (CW K) 6 "count_share" ["prime", "plain_size", "step_size", "number"] m_count_share := by
  obtain ⟨fd, F, hm⟩ := D.d_count_share
  exact ⟨fd, k_count_share T D F, F.bindsN fun _ _ _ _ _ _ us hl => match us, hl with | [_, _, _, _], _ => rfl, F.kp, hm⟩
theorem sc_closure_count : FnScope ["prime", "degree"] ["prime", "degree"] (defScope (top 29)) := ⟨rfl, rfl, rfl, by decide +kernel, rfl, by decide +kernel, by decide +kernel⟩
theorem k_closure_count (T : Tx K mg) (D : Dx K mg) {fd : FuncData} (F : FunD K "closure_count" "closure_count" (defArgs (top 29)) (defBody (top 29)) (defScope (top 29)) [] [] (He.ga K "closure_count") fd) : FnOk P w K mg base (L2.CX P w) 5 (He.ga K "closure_count") fd ["prime", "degree"] (spI (CW K) 2 m_closure_count) := by
  refine qf_def F sc_closure_count fun cdv A outer s H E hr => ?_
  have tk := takes_of (X := cxOf (L2.CX P w) P w K mg base ["prime", "degree"] "closure_count" (defScope (top 29)) (He.ga K "closure_count") cdv A outer s H E) (E := E) rfl rfl rfl rfl
  show PSs _ _ (tS (CW K) b_closure_count _)
  exact (qs_cons (qs_expr (qe_fn (o_require_prime T D) tk hr (by decide) rfl (qa_cons (qv 0) qa_nil) (lenA_cons lenA_nil) rfl))
    (qs_cons (qs_expr (qe_fn (o_require_within T D) tk hr (by decide) rfl (qa_cons (qv 1) (qa_cons qe_int (qa_cons (qgint T.i_MOST_CLOSURE) qa_nil))) (lenA_cons (lenA_cons (lenA_cons lenA_nil))) rfl))
    (qs_one (qs_ret (qe_fn (o_closure_count_in T D) tk hr (by decide) rfl (qa_cons (qv 0) (qa_cons (qv 1) qa_nil)) (lenA_cons (lenA_cons lenA_nil)) rfl)))))
theorem o_closure_count (T : Tx K mg) (D : Dx K mg) : Ok P w K mg base (CW K) 5 "closure_count" ["prime", "degree"] m_closure_count := by
  obtain ⟨fd, F, hm⟩ := D.d_closure_count
  exact ⟨fd, k_closure_count T D F, F.bindsN fun _ _ _ _ _ _ us hl => match us, hl with | [_, _], _ => rfl, F.kp, hm⟩
theorem sc__law_dice : FnScope ["_law_script", "_law_at", "_law_cell", "_law_great", "_law_left", "_law_mixed"] ["_law_script", "_law_at"] (defScope (top 31)) := ⟨rfl, rfl, rfl, by decide +kernel, rfl, by decide +kernel, by decide +kernel⟩
theorem k__law_dice (T : Tx K mg) (D : Dx K mg) {fd : FuncData} (F : FunD K "_law_dice" "_law_dice" (defArgs (top 31)) (defBody (top 31)) (defScope (top 31)) [] [] (He.ga K "_law_dice") fd) : FnOk P w K mg base (L2.CX P w) 1 (He.ga K "_law_dice") fd ["_law_script", "_law_at"] (spI (CW K) 2 m__law_dice) := by
  refine qf_def F sc__law_dice fun cdv A outer s H E hr => ?_
  have tk := takes_of (X := cxOf (L2.CX P w) P w K mg base ["_law_script", "_law_at", "_law_cell", "_law_great", "_law_left", "_law_mixed"] "_law_dice" (defScope (top 31)) (He.ga K "_law_dice") cdv A outer s H E) (E := E) rfl rfl rfl rfl
  show PSs _ _ (tS (CW K) b__law_dice _)
  exact (qs_cons (qset 2 sc__law_dice.nd (qe_add rfl (qe_mul rfl qe_int (qv 1)) qe_int))
    (qs_cons (qs_if (qtcmp op_lt (fCmpI_ok _) (qv 1) (qlen rfl T.n_len (qa_cons (qv 0) qa_nil))) (qs_one (qset 2 sc__law_dice.nd (qe_ix rfl (qv 0) (qv 1) (fun _ _ => rfl)))) qs_nil)
    (qs_cons (qset 3 sc__law_dice.nd (qe_mod (qint  T.n_int (qa_cons (qabs  T.n_abs (qa_cons (qv 2) qa_nil)) qa_nil)) (qe_pow (qe_pow qe_int qe_int) qe_int)))
    (qs_cons (qset 4 sc__law_dice.nd (qe_div (qv 3) (qe_pow qe_int qe_int)))
    (qs_cons (qset 5 sc__law_dice.nd (qe_add rfl (qe_add rfl (qe_add rfl (qe_mul rfl (qe_mod (qv 3) qe_int) qe_int) (qe_mul rfl qe_int (qv 1))) (qe_mul rfl qe_int (qint  T.n_int (qa_cons (qcmp op_lt (fCmpI_ok _) (qv 2) qe_int) qa_nil)))) qe_int))
    (qs_one (qs_ret (qe_lst (qa_cons (qv 4) (qa_cons (qe_mod (qv 5) qe_int) (qa_cons qe_int qa_nil)))))))))))
theorem o__law_dice (T : Tx K mg) (D : Dx K mg) : Ok P w K mg base (CW K) 1 "_law_dice" ["_law_script", "_law_at"] m__law_dice := by
  obtain ⟨fd, F, hm⟩ := D.d__law_dice
  exact ⟨fd, k__law_dice T D F, F.bindsN fun _ _ _ _ _ _ us hl => match us, hl with | [_, _], _ => rfl, F.kp, hm⟩
theorem sc__law_roll : FnScope ["_law_dice_here", "_law_total", "_law_size", "_law_drawn", "_law_one", "_law_two"] ["_law_dice_here", "_law_total"] (defScope (top 32)) := ⟨rfl, rfl, rfl, by decide +kernel, rfl, by decide +kernel, by decide +kernel⟩
theorem k__law_roll (T : Tx K mg) (D : Dx K mg) {fd : FuncData} (F : FunD K "_law_roll" "_law_roll" (defArgs (top 32)) (defBody (top 32)) (defScope (top 32)) [] [] (He.ga K "_law_roll") fd) : FnOk P w K mg base (L2.CX P w) 1 (He.ga K "_law_roll") fd ["_law_dice_here", "_law_total"] (spI (CW K) 2 m__law_roll) := by
  refine qf_def F sc__law_roll fun cdv A outer s H E hr => ?_
  have tk := takes_of (X := cxOf (L2.CX P w) P w K mg base ["_law_dice_here", "_law_total", "_law_size", "_law_drawn", "_law_one", "_law_two"] "_law_roll" (defScope (top 32)) (He.ga K "_law_roll") cdv A outer s H E) (E := E) rfl rfl rfl rfl
  show PSs _ _ (tS (CW K) b__law_roll _)
  exact (qs_cons (qset 2 sc__law_roll.nd (qint  T.n_int (qa_cons (qv 1) qa_nil)))
    (qs_cons (qs_if (qtcmp op_gt (fCmpI_ok _) (qe_ix rfl (qv 0) qe_int (fun _ _ => rfl)) qe_int) (qs_cons (qset 3 sc__law_roll.nd (qe_mod (qe_ix rfl (qv 0) qe_int (fun _ _ => rfl)) (qv 2)))
    (qs_cons (qs_put (qv 0) qe_int (qe_div (qe_ix rfl (qv 0) qe_int (fun _ _ => rfl)) (qv 2)))
    (qs_one (qs_ret (qint  T.n_int (qa_cons (qv 3) qa_nil)))))) qs_nil)
    (qs_cons (qs_put (qv 0) qe_int (qe_add rfl (qe_ix rfl (qv 0) qe_int (fun _ _ => rfl)) qe_int))
    (qs_cons (qset 4 sc__law_roll.nd (qe_mod (qe_add rfl (qe_ix rfl (qv 0) qe_int (fun _ _ => rfl)) (qe_mul rfl qe_int (qe_ix rfl (qv 0) qe_int (fun _ _ => rfl)))) qe_int))
    (qs_cons (qset 5 sc__law_roll.nd (qe_add rfl (qe_mul rfl (qe_mod (qe_mul rfl (qv 4) (qv 4)) qe_int) (qv 4)) (qe_mul rfl qe_int (qe_ix rfl (qv 0) qe_int (fun _ _ => rfl)))))
    (qs_cons (qset 5 sc__law_roll.nd (qe_mod (qv 5) qe_int))
    (qs_one (qs_ret (qint  T.n_int (qa_cons (qe_mod (qe_div (qv 5) qe_int) (qv 2)) qa_nil))))))))))
theorem o__law_roll (T : Tx K mg) (D : Dx K mg) : Ok P w K mg base (CW K) 1 "_law_roll" ["_law_dice_here", "_law_total"] m__law_roll := by
  obtain ⟨fd, F, hm⟩ := D.d__law_roll
  exact ⟨fd, k__law_roll T D F, F.bindsN fun _ _ _ _ _ _ us hl => match us, hl with | [_, _], _ => rfl, F.kp, hm⟩
theorem sc__law_one_of : FnScope ["_law_dice_here", "_law_items"] ["_law_dice_here", "_law_items"] (defScope (top 33)) := ⟨rfl, rfl, rfl, by decide +kernel, rfl, by decide +kernel, by decide +kernel⟩
theorem k__law_one_of (T : Tx K mg) (D : Dx K mg) {fd : FuncData} (F : FunD K "_law_one_of" "_law_one_of" (defArgs (top 33)) (defBody (top 33)) (defScope (top 33)) [] [] (He.ga K "_law_one_of") fd) : FnOk P w K mg base (L2.CX P w) 2 (He.ga K "_law_one_of") fd ["_law_dice_here", "_law_items"] (spI (CW K) 2 m__law_one_of) := by
  refine qf_def F sc__law_one_of fun cdv A outer s H E hr => ?_
  have tk := takes_of (X := cxOf (L2.CX P w) P w K mg base ["_law_dice_here", "_law_items"] "_law_one_of" (defScope (top 33)) (He.ga K "_law_one_of") cdv A outer s H E) (E := E) rfl rfl rfl rfl
  show PSs _ _ (tS (CW K) b__law_one_of _)
  exact (qs_one (qs_ret (qe_ix rfl (qv 1) (qe_fn (o__law_roll T D) tk hr (by decide) rfl (qa_cons (qv 0) (qa_cons (qlen rfl T.n_len (qa_cons (qv 1) qa_nil)) qa_nil)) (lenA_cons (lenA_cons lenA_nil)) rfl) (fun _ _ => rfl))))
theorem o__law_one_of (T : Tx K mg) (D : Dx K mg) : Ok P w K mg base (CW K) 2 "_law_one_of" ["_law_dice_here", "_law_items"] m__law_one_of := by
  obtain ⟨fd, F, hm⟩ := D.d__law_one_of
  exact ⟨fd, k__law_one_of T D F, F.bindsN fun _ _ _ _ _ _ us hl => match us, hl with | [_, _], _ => rfl, F.kp, hm⟩
theorem sc__law_power : FnScope ["_law_base", "_law_count", "_law_found", "_law_turn"] ["_law_base", "_law_count"] (defScope (top 34)) := ⟨rfl, rfl, rfl, by decide +kernel, rfl, by decide +kernel, by decide +kernel⟩
theorem k__law_power (T : Tx K mg) (D : Dx K mg) {fd : FuncData} (F : FunD K "_law_power" "_law_power" (defArgs (top 34)) (defBody (top 34)) (defScope (top 34)) [] [] (He.ga K "_law_power") fd) : FnOk P w K mg base (L2.CX P w) 1 (He.ga K "_law_power") fd ["_law_base", "_law_count"] (spI (CW K) 2 m__law_power) := by
  refine qf_def F sc__law_power fun cdv A outer s H E hr => ?_
  have tk := takes_of (X := cxOf (L2.CX P w) P w K mg base ["_law_base", "_law_count", "_law_found", "_law_turn"] "_law_power" (defScope (top 34)) (He.ga K "_law_power") cdv A outer s H E) (E := E) rfl rfl rfl rfl
  show PSs _ _ (tS (CW K) b__law_power _)
  exact (qs_cons (qset 2 sc__law_power.nd qe_int)
    (qs_cons (qs_for 1000000 (passes_of rfl) rfl (qi_range1 rfl T.n_range (qa_cons (qv 1) qa_nil) (hn := (lenA_cons lenA_nil))) (qg 3 sc__law_power.nd) (qs_one (qset 2 sc__law_power.nd (qe_mul rfl (qv 2) (qv 0)))))
    (qs_one (qs_ret (qv 2)))))
theorem o__law_power (T : Tx K mg) (D : Dx K mg) : Ok P w K mg base (CW K) 1 "_law_power" ["_law_base", "_law_count"] m__law_power := by
  obtain ⟨fd, F, hm⟩ := D.d__law_power
  exact ⟨fd, k__law_power T D F, F.bindsN fun _ _ _ _ _ _ us hl => match us, hl with | [_, _], _ => rfl, F.kp, hm⟩
theorem sc__law_gcd : FnScope ["_law_one", "_law_other"] ["_law_one", "_law_other"] (defScope (top 35)) := ⟨rfl, rfl, rfl, by decide +kernel, rfl, by decide +kernel, by decide +kernel⟩
theorem k__law_gcd (T : Tx K mg) (D : Dx K mg) {fd : FuncData} (F : FunD K "_law_gcd" "_law_gcd" (defArgs (top 35)) (defBody (top 35)) (defScope (top 35)) [] [] (He.ga K "_law_gcd") fd) : FnOk P w K mg base (L2.CX P w) 1 (He.ga K "_law_gcd") fd ["_law_one", "_law_other"] (spI (CW K) 2 m__law_gcd) := by
  refine qf_def F sc__law_gcd fun cdv A outer s H E hr => ?_
  have tk := takes_of (X := cxOf (L2.CX P w) P w K mg base ["_law_one", "_law_other"] "_law_gcd" (defScope (top 35)) (He.ga K "_law_gcd") cdv A outer s H E) (E := E) rfl rfl rfl rfl
  show PSs _ _ (tS (CW K) b__law_gcd _)
  exact (qs_cons (qs_par (i := 0) (j := 1) rfl sc__law_gcd.nd rfl rfl (by decide) rfl rfl (qa_cons (qabs  T.n_abs (qa_cons (qv 0) qa_nil)) (qa_cons (qabs  T.n_abs (qa_cons (qv 1) qa_nil)) qa_nil)) rfl)
    (qs_cons (qs_while 100000 (passes_of rfl) (qtcmp op_gt (fCmpI_ok _) (qv 1) qe_int) (qs_one (qs_par (i := 0) (j := 1) rfl sc__law_gcd.nd rfl rfl (by decide) rfl rfl (qa_cons (qv 1) (qa_cons (qe_mod (qv 0) (qv 1)) qa_nil)) rfl)))
    (qs_one (qs_ret (qv 0)))))
theorem o__law_gcd (T : Tx K mg) (D : Dx K mg) : Ok P w K mg base (CW K) 1 "_law_gcd" ["_law_one", "_law_other"] m__law_gcd := by
  obtain ⟨fd, F, hm⟩ := D.d__law_gcd
  exact ⟨fd, k__law_gcd T D F, F.bindsN fun _ _ _ _ _ _ us hl => match us, hl with | [_, _], _ => rfl, F.kp, hm⟩
theorem sc__law_lowest : FnScope ["_law_top", "_law_bottom", "_law_shared"] ["_law_top", "_law_bottom"] (defScope (top 36)) := ⟨rfl, rfl, rfl, by decide +kernel, rfl, by decide +kernel, by decide +kernel⟩
theorem k__law_lowest (T : Tx K mg) (D : Dx K mg) {fd : FuncData} (F : FunD K "_law_lowest" "_law_lowest" (defArgs (top 36)) (defBody (top 36)) (defScope (top 36)) [] [] (He.ga K "_law_lowest") fd) : FnOk P w K mg base (L2.CX P w) 2 (He.ga K "_law_lowest") fd ["_law_top", "_law_bottom"] (spI (CW K) 2 m__law_lowest) := by
  refine qf_def F sc__law_lowest fun cdv A outer s H E hr => ?_
  have tk := takes_of (X := cxOf (L2.CX P w) P w K mg base ["_law_top", "_law_bottom", "_law_shared"] "_law_lowest" (defScope (top 36)) (He.ga K "_law_lowest") cdv A outer s H E) (E := E) rfl rfl rfl rfl
  show PSs _ _ (tS (CW K) b__law_lowest _)
  exact (qs_cons (qset 2 sc__law_lowest.nd (qe_fn (o__law_gcd T D) tk hr (by decide) rfl (qa_cons (qv 0) (qa_cons (qv 1) qa_nil)) (lenA_cons (lenA_cons lenA_nil)) rfl))
    (qs_cons (qs_if (qtcmp op_lt (fCmpI_ok _) (qv 1) qe_int) (qs_one (qset 2 sc__law_lowest.nd (qe_sub qe_int (qv 2)))) qs_nil)
    (qs_one (qs_ret (qe_tup (qa_cons (qe_div (qv 0) (qv 2)) (qa_cons (qe_div (qv 1) (qv 2)) qa_nil)))))))
theorem o__law_lowest (T : Tx K mg) (D : Dx K mg) : Ok P w K mg base (CW K) 2 "_law_lowest" ["_law_top", "_law_bottom"] m__law_lowest := by
  obtain ⟨fd, F, hm⟩ := D.d__law_lowest
  exact ⟨fd, k__law_lowest T D F, F.bindsN fun _ _ _ _ _ _ us hl => match us, hl with | [_, _], _ => rfl, F.kp, hm⟩
theorem sc__law_exponent : FnScope ["_law_p", "_law_number", "_law_found", "_law_left"] ["_law_p", "_law_number"] (defScope (top 37)) := ⟨rfl, rfl, rfl, by decide +kernel, rfl, by decide +kernel, by decide +kernel⟩
theorem k__law_exponent (T : Tx K mg) (D : Dx K mg) {fd : FuncData} (F : FunD K "_law_exponent" "_law_exponent" (defArgs (top 37)) (defBody (top 37)) (defScope (top 37)) [] [] (He.ga K "_law_exponent") fd) : FnOk P w K mg base (L2.CX P w) 1 (He.ga K "_law_exponent") fd ["_law_p", "_law_number"] (spI (CW K) 2 m__law_exponent) := by
  refine qf_def F sc__law_exponent fun cdv A outer s H E hr => ?_
  have tk := takes_of (X := cxOf (L2.CX P w) P w K mg base ["_law_p", "_law_number", "_law_found", "_law_left"] "_law_exponent" (defScope (top 37)) (He.ga K "_law_exponent") cdv A outer s H E) (E := E) rfl rfl rfl rfl
  show PSs _ _ (tS (CW K) b__law_exponent _)
  exact (qs_cons (qs_par (i := 2) (j := 3) rfl sc__law_exponent.nd rfl rfl (by decide) rfl rfl (qa_cons qe_int (qa_cons (qv 1) qa_nil)) rfl)
    (qs_cons (qs_while 100000 (passes_of rfl) (qtcmp (op_eqK rfl (u64 hr)) fEq_ok (qe_mod (qv 3) (qv 0)) qe_int) (qs_one (qs_par (i := 3) (j := 2) rfl sc__law_exponent.nd rfl rfl (by decide) rfl rfl (qa_cons (qe_div (qv 3) (qv 0)) (qa_cons (qe_add rfl (qv 2) qe_int) qa_nil)) rfl)))
    (qs_one (qs_ret (qv 2)))))
theorem o__law_exponent (T : Tx K mg) (D : Dx K mg) : Ok P w K mg base (CW K) 1 "_law_exponent" ["_law_p", "_law_number"] m__law_exponent := by
  obtain ⟨fd, F, hm⟩ := D.d__law_exponent
  exact ⟨fd, k__law_exponent T D F, F.bindsN fun _ _ _ _ _ _ us hl => match us, hl with | [_, _], _ => rfl, F.kp, hm⟩
theorem sc__law_ore : FnScope ["_law_p", "_law_e", "_law_s", "_law_found", "_law_j", "_law_b", "_law_least"] ["_law_p", "_law_e"] (defScope (top 38)) := ⟨rfl, rfl, rfl, by decide +kernel, rfl, by decide +kernel, by decide +kernel⟩
theorem k__law_ore (T : Tx K mg) (D : Dx K mg) {fd : FuncData} (F : FunD K "_law_ore" "_law_ore" (defArgs (top 38)) (defBody (top 38)) (defScope (top 38)) [] [] (He.ga K "_law_ore") fd) : FnOk P w K mg base (L2.CX P w) 2 (He.ga K "_law_ore") fd ["_law_p", "_law_e"] (spI (CW K) 2 m__law_ore) := by
  refine qf_def F sc__law_ore fun cdv A outer s H E hr => ?_
  have tk := takes_of (X := cxOf (L2.CX P w) P w K mg base ["_law_p", "_law_e", "_law_s", "_law_found", "_law_j", "_law_b", "_law_least"] "_law_ore" (defScope (top 38)) (He.ga K "_law_ore") cdv A outer s H E) (E := E) rfl rfl rfl rfl
  show PSs _ _ (tS (CW K) b__law_ore _)
  exact (qs_cons (qs_par (i := 2) (j := 3) rfl sc__law_ore.nd rfl rfl (by decide) rfl rfl (qa_cons (qe_fn (o__law_exponent T D) tk hr (by decide) rfl (qa_cons (qv 0) (qa_cons (qv 1) qa_nil)) (lenA_cons (lenA_cons lenA_nil)) rfl) (qa_cons (qe_lst qa_nil) qa_nil)) rfl)
    (qs_cons (qs_for 1000000 (passes_of rfl) rfl (qi_range1 rfl T.n_range (qa_cons (qe_add rfl (qe_mul rfl (qv 1) (qv 2)) qe_int) qa_nil) (hn := (lenA_cons lenA_nil))) (qg 4 sc__law_ore.nd) (qs_cons (qset 5 sc__law_ore.nd (qe_mod (qv 4) (qv 1)))
    (qs_cons (qset 6 sc__law_ore.nd (qe_if (qtcmp (op_eqK rfl (u64 hr)) fEq_ok (qv 5) qe_int) (qe_mul rfl (qv 1) (qv 2)) (qmin rfl rfl T.n_min (qa_cons (qe_mul rfl (qv 1) (qe_fn (o__law_exponent T D) tk hr (by decide) rfl (qa_cons (qv 0) (qa_cons (qv 5) qa_nil)) (lenA_cons (lenA_cons lenA_nil)) rfl)) (qa_cons (qe_mul rfl (qv 1) (qv 2)) qa_nil)))))
    (qs_one (qs_if (qtcmp op_le (fCmpI_ok _) (qv 6) (qv 4)) (qs_one (qs_expr (qappend rfl (qv 3) (qa_cons (qv 4) qa_nil) (fun h1 h2 => pe_bm PySem.F.plainAttrs_list PySem.F.slot_list_append PySem.F.type_list_append mt_append h1 h2)))) qs_nil)))))
    (qs_one (qs_ret (qv 3)))))
theorem o__law_ore (T : Tx K mg) (D : Dx K mg) : Ok P w K mg base (CW K) 2 "_law_ore" ["_law_p", "_law_e"] m__law_ore := by
  obtain ⟨fd, F, hm⟩ := D.d__law_ore
  exact ⟨fd, k__law_ore T D F, F.bindsN fun _ _ _ _ _ _ us hl => match us, hl with | [_, _], _ => rfl, F.kp, hm⟩
theorem sc__law_is_whole : FnScope ["_law_value"] ["_law_value"] (defScope (top 39)) := ⟨rfl, rfl, rfl, by decide +kernel, rfl, by decide +kernel, by decide +kernel⟩
theorem k__law_is_whole (T : Tx K mg) (D : Dx K mg) {fd : FuncData} (F : FunD K "_law_is_whole" "_law_is_whole" (defArgs (top 39)) (defBody (top 39)) (defScope (top 39)) [] [] (He.ga K "_law_is_whole") fd) : FnOk P w K mg base (L2.CX P w) 1 (He.ga K "_law_is_whole") fd ["_law_value"] (spI (CW K) 1 m__law_is_whole) := by
  refine qf_def F sc__law_is_whole fun cdv A outer s H E hr => ?_
  have tk := takes_of (X := cxOf (L2.CX P w) P w K mg base ["_law_value"] "_law_is_whole" (defScope (top 39)) (He.ga K "_law_is_whole") cdv A outer s H E) (E := E) rfl rfl rfl rfl
  show PSs _ _ (tS (CW K) b__law_is_whole _)
  exact (qs_one (qs_ret (qe_and (qisinst rfl T.n_isinstance (qa_cons (qv 0) (qa_cons (qe_ty (t := .int) rfl T.n_int (by decide +kernel)) qa_nil))) (qe_one (qe_not (qisinst rfl T.n_isinstance (qa_cons (qv 0) (qa_cons (qe_ty (t := .bool) rfl T.n_bool (by decide +kernel)) qa_nil))))))))
theorem o__law_is_whole (T : Tx K mg) (D : Dx K mg) : Ok P w K mg base (CW K) 1 "_law_is_whole" ["_law_value"] m__law_is_whole := by
  obtain ⟨fd, F, hm⟩ := D.d__law_is_whole
  exact ⟨fd, k__law_is_whole T D F, F.bindsN fun _ _ _ _ _ _ us hl => match us, hl with | [_], _ => rfl, F.kp, hm⟩
theorem sc__law_share : FnScope ["_law_p", "_law_f", "_law_e", "_law_j", "_law_q", "_law_b", "_law_top", "_law_bottom", "_law_k", "_law_least"] ["_law_p", "_law_f", "_law_e", "_law_j"] (defScope (top 40)) := ⟨rfl, rfl, rfl, by decide +kernel, rfl, by decide +kernel, by decide +kernel⟩
theorem k__law_share (T : Tx K mg) (D : Dx K mg) {fd : FuncData} (F : FunD K "_law_share" "_law_share" (defArgs (top 40)) (defBody (top 40)) (defScope (top 40)) [] [] (He.ga K "_law_share") fd) : FnOk P w K mg base (L2.CX P w) 3 (He.ga K "_law_share") fd ["_law_p", "_law_f", "_law_e", "_law_j"] (spI (CW K) 4 m__law_share) := by
  refine qf_def F sc__law_share fun cdv A outer s H E hr => ?_
  have tk := takes_of (X := cxOf (L2.CX P w) P w K mg base ["_law_p", "_law_f", "_law_e", "_law_j", "_law_q", "_law_b", "_law_top", "_law_bottom", "_law_k", "_law_least"] "_law_share" (defScope (top 40)) (He.ga K "_law_share") cdv A outer s H E) (E := E) rfl rfl rfl rfl
  show PSs _ _ (tS (CW K) b__law_share _)
  exact (qs_cons (qs_par (i := 4) (j := 5) rfl sc__law_share.nd rfl rfl (by decide) rfl rfl (qa_cons (qe_fn (o__law_power T D) tk hr (by decide) rfl (qa_cons (qv 0) (qa_cons (qv 1) qa_nil)) (lenA_cons (lenA_cons lenA_nil)) rfl) (qa_cons (qe_mod (qv 3) (qv 2)) qa_nil)) rfl)
    (qs_cons (qs_par (i := 6) (j := 7) rfl sc__law_share.nd rfl rfl (by decide) rfl rfl (qa_cons (qv 2) (qa_cons qe_int qa_nil)) rfl)
    (qs_cons (qs_for 1000000 (passes_of rfl) rfl (qi_range2 rfl T.n_range (qa_cons qe_int (qa_cons (qv 2) qa_nil)) (hn := (lenA_cons (lenA_cons lenA_nil)))) (qg 8 sc__law_share.nd) (qs_cons (qset 9 sc__law_share.nd qe_int)
    (qs_cons (qs_while 100000 (passes_of rfl) (qtcmp op_lt (fCmpI_ok _) (qe_add rfl (qe_mul rfl (qv 2) (qe_add rfl (qe_fn (o__law_exponent T D) tk hr (by decide) rfl (qa_cons (qv 0) (qa_cons (qv 8) qa_nil)) (lenA_cons (lenA_cons lenA_nil)) rfl) (qv 9))) (qv 8)) (qe_add rfl (qe_add rfl (qv 2) (qv 3)) (qint  T.n_int (qa_cons (qcmp (op_neK rfl (u64 hr)) fNe_ok (qv 8) (qv 5)) qa_nil)))) (qs_one (qset 9 sc__law_share.nd (qe_add rfl (qv 9) qe_int))))
    (qs_cons (qset 7 sc__law_share.nd (qe_mul rfl (qv 7) (qe_fn (o__law_power T D) tk hr (by decide) rfl (qa_cons (qv 4) (qa_cons (qe_sub (qv 9) qe_int) qa_nil)) (lenA_cons (lenA_cons lenA_nil)) rfl)))
    (qs_one (qs_if (qtcmp (op_eqK rfl (u64 hr)) fEq_ok (qv 8) (qv 5)) (qs_one (qs_par (i := 6) (j := 7) rfl sc__law_share.nd rfl rfl (by decide) rfl rfl (qa_cons (qe_mul rfl (qv 6) (qe_sub (qv 4) qe_int)) (qa_cons (qe_mul rfl (qv 7) (qv 4)) qa_nil)) rfl)) qs_nil))))))
    (qs_one (qs_ret (qe_fn (o__law_lowest T D) tk hr (by decide) rfl (qa_cons (qv 6) (qa_cons (qv 7) qa_nil)) (lenA_cons (lenA_cons lenA_nil)) rfl))))))
theorem o__law_share (T : Tx K mg) (D : Dx K mg) : Ok P w K mg base (CW K) 3 "_law_share" ["_law_p", "_law_f", "_law_e", "_law_j"] m__law_share := by
  obtain ⟨fd, F, hm⟩ := D.d__law_share
  exact ⟨fd, k__law_share T D F, F.bindsN fun _ _ _ _ _ _ us hl => match us, hl with | [_, _, _, _], _ => rfl, F.kp, hm⟩
theorem sc__law_own_count : FnScope ["_law_p", "_law_f", "_law_e", "_law_j", "_law_share_here"] ["_law_p", "_law_f", "_law_e", "_law_j"] (defScope (top 41)) := ⟨rfl, rfl, rfl, by decide +kernel, rfl, by decide +kernel, by decide +kernel⟩
theorem k__law_own_count (T : Tx K mg) (D : Dx K mg) {fd : FuncData} (F : FunD K "_law_own_count" "_law_own_count" (defArgs (top 41)) (defBody (top 41)) (defScope (top 41)) [] [] (He.ga K "_law_own_count") fd) : FnOk P w K mg base (L2.CX P w) 4 (He.ga K "_law_own_count") fd ["_law_p", "_law_f", "_law_e", "_law_j"] (spI (CW K) 4 m__law_own_count) := by
  refine qf_def F sc__law_own_count fun cdv A outer s H E hr => ?_
  have tk := takes_of (X := cxOf (L2.CX P w) P w K mg base ["_law_p", "_law_f", "_law_e", "_law_j", "_law_share_here"] "_law_own_count" (defScope (top 41)) (He.ga K "_law_own_count") cdv A outer s H E) (E := E) rfl rfl rfl rfl
  show PSs _ _ (tS (CW K) b__law_own_count _)
  exact (qs_cons (qset 4 sc__law_own_count.nd (qe_fn (o__law_share T D) tk hr (by decide) rfl (qa_cons (qv 0) (qa_cons (qv 1) (qa_cons (qv 2) (qa_cons (qv 3) qa_nil)))) (lenA_cons (lenA_cons (lenA_cons (lenA_cons lenA_nil)))) rfl))
    (qs_one (qs_ret (qe_div (qe_mul rfl (qe_ix rfl (qv 4) qe_int (fun _ _ => rfl)) (qe_fn (o__law_power T D) tk hr (by decide) rfl (qa_cons (qe_fn (o__law_power T D) tk hr (by decide) rfl (qa_cons (qv 0) (qa_cons (qv 1) qa_nil)) (lenA_cons (lenA_cons lenA_nil)) rfl) (qa_cons (qv 3) qa_nil)) (lenA_cons (lenA_cons lenA_nil)) rfl)) (qe_ix rfl (qv 4) qe_int (fun _ _ => rfl))))))
theorem o__law_own_count (T : Tx K mg) (D : Dx K mg) : Ok P w K mg base (CW K) 4 "_law_own_count" ["_law_p", "_law_f", "_law_e", "_law_j"] m__law_own_count := by
  obtain ⟨fd, F, hm⟩ := D.d__law_own_count
  exact ⟨fd, k__law_own_count T D F, F.bindsN fun _ _ _ _ _ _ us hl => match us, hl with | [_, _, _, _], _ => rfl, F.kp, hm⟩
theorem sc__law_sizes_right : FnScope ["_law_p", "_law_f", "_law_e", "_law_some", "_law_top", "_law_bottom", "_law_j", "_law_share_here"] ["_law_p", "_law_f", "_law_e"] (defScope (top 42)) := ⟨rfl, rfl, rfl, by decide +kernel, rfl, by decide +kernel, by decide +kernel⟩
theorem k__law_sizes_right (T : Tx K mg) (D : Dx K mg) {fd : FuncData} (F : FunD K "_law_sizes_right" "_law_sizes_right" (defArgs (top 42)) (defBody (top 42)) (defScope (top 42)) [] [] (He.ga K "_law_sizes_right") fd) : FnOk P w K mg base (L2.CX P w) 7 (He.ga K "_law_sizes_right") fd ["_law_p", "_law_f", "_law_e"] (spI (CW K) 3 m__law_sizes_right) := by
  refine qf_def F sc__law_sizes_right fun cdv A outer s H E hr => ?_
  have tk := takes_of (X := cxOf (L2.CX P w) P w K mg base ["_law_p", "_law_f", "_law_e", "_law_some", "_law_top", "_law_bottom", "_law_j", "_law_share_here"] "_law_sizes_right" (defScope (top 42)) (He.ga K "_law_sizes_right") cdv A outer s H E) (E := E) rfl rfl rfl rfl
  show PSs _ _ (tS (CW K) b__law_sizes_right _)
  exact (qs_cons (qset 3 sc__law_sizes_right.nd (qe_fn (o_ore_numbers T D) tk hr (by decide) rfl (qa_cons (qv 0) (qa_cons (qv 2) qa_nil)) (lenA_cons (lenA_cons lenA_nil)) rfl))
    (qs_cons (qs_if (qtcmp (op_neK rfl (u64 hr)) fNe_ok (qv 3) (qtuple rfl T.n_tuple (qa_cons (qe_fn (o__law_ore T D) tk hr (by decide) rfl (qa_cons (qv 0) (qa_cons (qv 2) qa_nil)) (lenA_cons (lenA_cons lenA_nil)) rfl) qa_nil))) (qs_one (qs_ret qe_bl)) qs_nil)
    (qs_cons (qs_asg (qe_tup (qa_cons qe_int (qa_cons qe_int qa_nil))) (qg_tup rfl rfl (qgs_cons (qg 4 sc__law_sizes_right.nd) (qgs_cons (qg 5 sc__law_sizes_right.nd) qgs_nil)) rfl))
    (qs_cons (qs_for 1000000 (passes_of rfl) rfl (qi_seq rfl (qv 3)) (qg 6 sc__law_sizes_right.nd) (qs_cons (qset 7 sc__law_sizes_right.nd (qe_fn (o_count_share T D) tk hr (by decide) rfl (qa_cons (qv 0) (qa_cons (qv 1) (qa_cons (qv 2) (qa_cons (qv 6) qa_nil)))) (lenA_cons (lenA_cons (lenA_cons (lenA_cons lenA_nil)))) rfl))
    (qs_cons (qs_if (qt_w (qw_or (qtcmp (op_neK rfl (u64 hr)) fNe_ok (qv 7) (qe_fn (o__law_share T D) tk hr (by decide) rfl (qa_cons (qv 0) (qa_cons (qv 1) (qa_cons (qv 2) (qa_cons (qv 6) qa_nil)))) (lenA_cons (lenA_cons (lenA_cons (lenA_cons lenA_nil)))) rfl)) (qw_or1 (qtcmp (op_neK rfl (u64 hr)) fNe_ok (qe_fn (o_krasner_count T D) tk hr (by decide) rfl (qa_cons (qv 0) (qa_cons (qv 1) (qa_cons (qv 2) (qa_cons (qv 6) qa_nil)))) (lenA_cons (lenA_cons (lenA_cons (lenA_cons lenA_nil)))) rfl) (qe_fn (o__law_own_count T D) tk hr (by decide) rfl (qa_cons (qv 0) (qa_cons (qv 1) (qa_cons (qv 2) (qa_cons (qv 6) qa_nil)))) (lenA_cons (lenA_cons (lenA_cons (lenA_cons lenA_nil)))) rfl))))) (qs_one (qs_ret qe_bl)) qs_nil)
    (qs_one (qs_asg (qe_fn (o__law_lowest T D) tk hr (by decide) rfl (qa_cons (qe_add rfl (qe_mul rfl (qv 4) (qe_ix rfl (qv 7) qe_int (fun _ _ => rfl))) (qe_mul rfl (qe_ix rfl (qv 7) qe_int (fun _ _ => rfl)) (qv 5))) (qa_cons (qe_mul rfl (qv 5) (qe_ix rfl (qv 7) qe_int (fun _ _ => rfl))) qa_nil)) (lenA_cons (lenA_cons lenA_nil)) rfl) (qg_tup rfl rfl (qgs_cons (qg 4 sc__law_sizes_right.nd) (qgs_cons (qg 5 sc__law_sizes_right.nd) qgs_nil)) rfl))))))
    (qs_one (qs_ret (qcmp (op_eqK rfl (u64 hr)) fEq_ok (qe_tup (qa_cons (qv 4) (qa_cons (qv 5) qa_nil))) (qe_tup (qa_cons (qv 2) (qa_cons qe_int qa_nil))))))))))
theorem o__law_sizes_right (T : Tx K mg) (D : Dx K mg) : Ok P w K mg base (CW K) 7 "_law_sizes_right" ["_law_p", "_law_f", "_law_e"] m__law_sizes_right := by
  obtain ⟨fd, F, hm⟩ := D.d__law_sizes_right
  exact ⟨fd, k__law_sizes_right T D F, F.bindsN fun _ _ _ _ _ _ us hl => match us, hl with | [_, _, _], _ => rfl, F.kp, hm⟩
theorem sc__law_degree_right : FnScope ["_law_p", "_law_degree", "_law_total", "_law_f", "_law_j"] ["_law_p", "_law_degree"] (defScope (top 43)) := ⟨rfl, rfl, rfl, by decide +kernel, rfl, by decide +kernel, by decide +kernel⟩
theorem k__law_degree_right (T : Tx K mg) (D : Dx K mg) {fd : FuncData} (F : FunD K "_law_degree_right" "_law_degree_right" (defArgs (top 43)) (defBody (top 43)) (defScope (top 43)) [] [] (He.ga K "_law_degree_right") fd) : FnOk P w K mg base (L2.CX P w) 6 (He.ga K "_law_degree_right") fd ["_law_p", "_law_degree"] (spI (CW K) 2 m__law_degree_right) := by
  refine qf_def F sc__law_degree_right fun cdv A outer s H E hr => ?_
  have tk := takes_of (X := cxOf (L2.CX P w) P w K mg base ["_law_p", "_law_degree", "_law_total", "_law_f", "_law_j"] "_law_degree_right" (defScope (top 43)) (He.ga K "_law_degree_right") cdv A outer s H E) (E := E) rfl rfl rfl rfl
  show PSs _ _ (tS (CW K) b__law_degree_right _)
  exact (qs_cons (qset 2 sc__law_degree_right.nd qe_int)
    (qs_cons (qs_for 1000000 (passes_of rfl) rfl (qi_range2 rfl T.n_range (qa_cons qe_int (qa_cons (qe_add rfl (qv 1) qe_int) qa_nil)) (hn := (lenA_cons (lenA_cons lenA_nil)))) (qg 3 sc__law_degree_right.nd) (qs_one (qs_if (qtcmp (op_eqK rfl (u64 hr)) fEq_ok (qe_mod (qv 1) (qv 3)) qe_int) (qs_one (qset 2 sc__law_degree_right.nd (qe_add rfl (qv 2) (qsum rfl rfl T.n_sum (qa_cons (qe_lc (own := [("_law_j", 4)]) 1000000 (by decide) rfl sc__law_degree_right.nd (qi_seq rfl (qe_fn (o__law_ore T D) tk hr (by decide) rfl (qa_cons (qv 0) (qa_cons (qe_div (qv 1) (qv 3)) qa_nil)) (lenA_cons (lenA_cons lenA_nil)) rfl)) (blkOk_by (N := ["_law_p", "_law_degree", "_law_total", "_law_f", "_law_j"]) (sc := defScope (top 43)) (by decide +kernel)) (by decide) (fun _ _ _ _ _ => (qg 4 sc__law_degree_right.nd)) (fun _ _ _ _ _ => qts_nil) (fun _ _ _ _ _ => (qe_fn (o__law_own_count T D) takes0 hr (by decide) rfl (qa_cons (qv 0) (qa_cons (qv 3) (qa_cons (qe_div (qv 1) (qv 3)) (qa_cons (qv 4) qa_nil)))) (lenA_cons (lenA_cons (lenA_cons (lenA_cons lenA_nil)))) rfl))) qa_nil))))) qs_nil)))
    (qs_one (qs_ret (qcmp (op_eqK rfl (u64 hr)) fEq_ok (qe_fn (o_closure_count T D) tk hr (by decide) rfl (qa_cons (qv 0) (qa_cons (qv 1) qa_nil)) (lenA_cons (lenA_cons lenA_nil)) rfl) (qv 2))))))
theorem o__law_degree_right (T : Tx K mg) (D : Dx K mg) : Ok P w K mg base (CW K) 6 "_law_degree_right" ["_law_p", "_law_degree"] m__law_degree_right := by
  obtain ⟨fd, F, hm⟩ := D.d__law_degree_right
  exact ⟨fd, k__law_degree_right T D F, F.bindsN fun _ _ _ _ _ _ us hl => match us, hl with | [_, _], _ => rfl, F.kp, hm⟩
theorem sc_law : FnScope ["_law_script", "_law_at", "_law_dice_here", "_law_p", "_law_f", "_law_e", "_law_degree", "_law_value", "_law_due"] ["_law_script"] (defScope (top 44)) := ⟨rfl, rfl, rfl, by decide +kernel, rfl, by decide +kernel, by decide +kernel⟩
theorem k_law (T : Tx K mg) (D : Dx K mg) {fd : FuncData} (F : FunD K "law" "law" (defArgs (top 44)) (defBody (top 44)) (defScope (top 44)) [] [] (He.ga K "law") fd) : FnOk P w K mg base (L2.CX P w) 8 (He.ga K "law") fd ["_law_script"] (spI (CW K) 1 m_law) := by
  refine qf_def F sc_law fun cdv A outer s H E hr => ?_
  have tk := takes_of (X := cxOf (L2.CX P w) P w K mg base ["_law_script", "_law_at", "_law_dice_here", "_law_p", "_law_f", "_law_e", "_law_degree", "_law_value", "_law_due"] "law" (defScope (top 44)) (He.ga K "law") cdv A outer s H E) (E := E) rfl rfl rfl rfl
  show PSs _ _ (tS (CW K) b_law _)
  exact (qs_cons (qs_for 1000000 (passes_of rfl) rfl (qi_range1 rfl T.n_range (qa_cons (qmax rfl rfl T.n_max (qa_cons qe_int (qa_cons (qmin rfl rfl T.n_min (qa_cons (qlen rfl T.n_len (qa_cons (qv 0) qa_nil)) (qa_cons qe_int qa_nil))) qa_nil))) qa_nil) (hn := (lenA_cons lenA_nil))) (qg 1 sc_law.nd) (qs_cons (qset 2 sc_law.nd (qe_fn (o__law_dice T D) tk hr (by decide) rfl (qa_cons (qv 0) (qa_cons (qv 1) qa_nil)) (lenA_cons (lenA_cons lenA_nil)) rfl))
    (qs_cons (qset 3 sc_law.nd (qe_fn (o__law_one_of T D) tk hr (by decide) rfl (qa_cons (qv 2) (qa_cons (qe_lst (qa_cons qe_int (qa_cons qe_int (qa_cons qe_int (qa_cons qe_int (qa_cons qe_int (qa_cons qe_int qa_nil))))))) qa_nil)) (lenA_cons (lenA_cons lenA_nil)) rfl))
    (qs_cons (qs_par3 (i := 4) (j := 5) (l := 6) rfl sc_law.nd rfl rfl rfl (by decide) (by decide) (by decide) rfl rfl rfl (qa_cons (qe_add rfl qe_int (qe_fn (o__law_roll T D) tk hr (by decide) rfl (qa_cons (qv 2) (qa_cons qe_int qa_nil)) (lenA_cons (lenA_cons lenA_nil)) rfl)) (qa_cons (qe_add rfl qe_int (qe_fn (o__law_roll T D) tk hr (by decide) rfl (qa_cons (qv 2) (qa_cons qe_int qa_nil)) (lenA_cons (lenA_cons lenA_nil)) rfl)) (qa_cons (qe_add rfl qe_int (qe_fn (o__law_roll T D) tk hr (by decide) rfl (qa_cons (qv 2) (qa_cons qe_int qa_nil)) (lenA_cons (lenA_cons lenA_nil)) rfl)) qa_nil))) rfl)
    (qs_cons (qs_if (qt_w (qw_or (qt_not (qt_truth rfl (qe_fn (o__law_sizes_right T D) tk hr (by decide) rfl (qa_cons (qv 3) (qa_cons (qv 4) (qa_cons (qv 5) qa_nil))) (lenA_cons (lenA_cons (lenA_cons lenA_nil))) rfl))) (qw_or1 (qt_not (qt_truth rfl (qe_fn (o__law_sizes_right T D) tk hr (by decide) rfl (qa_cons (qv 3) (qa_cons qe_int (qa_cons (qe_fn (o__law_one_of T D) tk hr (by decide) rfl (qa_cons (qv 2) (qa_cons (qe_lst (qa_cons (qv 3) (qa_cons (qe_mul rfl qe_int (qv 3)) (qa_cons qe_int (qa_cons qe_int (qa_cons qe_int qa_nil)))))) qa_nil)) (lenA_cons (lenA_cons lenA_nil)) rfl) qa_nil))) (lenA_cons (lenA_cons (lenA_cons lenA_nil))) rfl)))))) (qs_one (qs_ret qe_bl)) qs_nil)
    (qs_cons (qs_if (qt_not (qt_truth rfl (qe_fn (o__law_degree_right T D) tk hr (by decide) rfl (qa_cons (qv 3) (qa_cons (qv 6) qa_nil)) (lenA_cons (lenA_cons lenA_nil)) rfl))) (qs_one (qs_ret qe_bl)) qs_nil)
    (qs_one (qs_for 1000000 (passes_of rfl) rfl (qi_seq rfl (qe_add rfl (qe_lst (qa_cons qe_non (qa_cons (qe_neg qe_int) (qa_cons qe_int (qa_cons qe_int (qa_cons qe_bl (qa_cons qe_str (qa_cons (qe_tup (qa_cons qe_int qa_nil)) (qa_cons (qe_mul rfl (qe_pow qe_int qe_int) (qe_pow qe_int qe_int)) (qa_cons qe_int (qa_cons (qe_lst (qa_cons qe_int qa_nil)) qa_nil))))))))))) (qe_listRg2 rfl rfl T.n_list rfl T.n_range qe_int qe_int))) (qg 7 sc_law.nd) (qs_cons (qset 8 sc_law.nd (qe_and (qe_fn (o__law_is_whole T D) tk hr (by decide) rfl (qa_cons (qv 7) qa_nil) (lenA_cons lenA_nil) rfl) (qe_one (qcmp (op_inK rfl (u65 hr)) fIn_ok (qv 7) (qe_fn (o__law_ore T D) tk hr (by decide) rfl (qa_cons (qv 3) (qa_cons (qv 5) qa_nil)) (lenA_cons (lenA_cons lenA_nil)) rfl)))))
    (qs_one (qs_if (qtcmp (op_neK rfl (u64 hr)) fNe_ok (qrepr  T.n_repr (qa_cons (qe_fn (o_is_step_number T D) tk hr (by decide) rfl (qa_cons (qv 3) (qa_cons (qv 5) (qa_cons (qv 7) qa_nil))) (lenA_cons (lenA_cons (lenA_cons lenA_nil))) rfl) qa_nil)) (qrepr  T.n_repr (qa_cons (qv 8) qa_nil))) (qs_one (qs_ret qe_bl)) qs_nil)))))))))))
    (qs_one (qs_ret (qcmp (op_eqK rfl (u64 hr)) fEq_ok (qe_lst (qa_cons (qe_fn (o_closure_count T D) tk hr (by decide) rfl (qa_cons qe_int (qa_cons qe_int qa_nil)) (lenA_cons (lenA_cons lenA_nil)) rfl) (qa_cons (qe_fn (o_closure_count T D) tk hr (by decide) rfl (qa_cons qe_int (qa_cons qe_int qa_nil)) (lenA_cons (lenA_cons lenA_nil)) rfl) (qa_cons (qe_fn (o_closure_count T D) tk hr (by decide) rfl (qa_cons qe_int (qa_cons qe_int qa_nil)) (lenA_cons (lenA_cons lenA_nil)) rfl) qa_nil)))) (qe_lst (qa_cons qe_int (qa_cons qe_int (qa_cons qe_int qa_nil))))))))
theorem o_law (T : Tx K mg) (D : Dx K mg) : Ok P w K mg base (CW K) 8 "law" ["_law_script"] m_law := by
  obtain ⟨fd, F, hm⟩ := D.d_law
  exact ⟨fd, k_law T D F, F.bindsN fun _ _ _ _ _ _ us hl => match us, hl with | [_], _ => rfl, F.kp, hm⟩
end
end LW

set_option Elab.async false
set_option linter.all false
set_option maxRecDepth 100000
set_option maxHeartbeats 4000000
set_option autoImplicit false
namespace LW
open PySem PySem.Spec PyProof.Rows L2 FX
/-! ### the head -/
def d_is_whole_number : He.DefD := ⟨("is_whole_number", none), "is_whole_number", "is_whole_number", defArgs (top 6), defBody (top 6), defScope (top 6), [], []⟩
def d_is_integer : He.DefD := ⟨("is_integer", none), "is_integer", "is_integer", defArgs (top 7), defBody (top 7), defScope (top 7), [], []⟩
def d_is_within : He.DefD := ⟨("is_within", none), "is_within", "is_within", defArgs (top 8), defBody (top 8), defScope (top 8), [], []⟩
def d_power_of : He.DefD := ⟨("power_of", none), "power_of", "power_of", defArgs (top 9), defBody (top 9), defScope (top 9), [], []⟩
def d_exponent_in : He.DefD := ⟨("exponent_in", none), "exponent_in", "exponent_in", defArgs (top 10), defBody (top 10), defScope (top 10), [], []⟩
def d_ratio_in : He.DefD := ⟨("ratio_in", none), "ratio_in", "ratio_in", defArgs (top 11), defBody (top 11), defScope (top 11), [], []⟩
def d_require_prime : He.DefD := ⟨("require_prime", none), "require_prime", "require_prime", defArgs (top 12), defBody (top 12), defScope (top 12), [], []⟩
def d_require_within : He.DefD := ⟨("require_within", none), "require_within", "require_within", defArgs (top 13), defBody (top 13), defScope (top 13), [], []⟩
def d_least_of_ore : He.DefD := ⟨("least_of_ore", none), "least_of_ore", "least_of_ore", defArgs (top 18), defBody (top 18), defScope (top 18), [], []⟩
def d_ore_in : He.DefD := ⟨("ore_in", none), "ore_in", "ore_in", defArgs (top 19), defBody (top 19), defScope (top 19), [], []⟩
def d_krasner_in : He.DefD := ⟨("krasner_in", none), "krasner_in", "krasner_in", defArgs (top 20), defBody (top 20), defScope (top 20), [], []⟩
def d_closure_count_in : He.DefD := ⟨("closure_count_in", none), "closure_count_in", "closure_count_in", defArgs (top 21), defBody (top 21), defScope (top 21), [], []⟩
def d_require_sizes : He.DefD := ⟨("require_sizes", none), "require_sizes", "require_sizes", defArgs (top 22), defBody (top 22), defScope (top 22), [], []⟩
def d_is_step_in : He.DefD := ⟨("is_step_in", none), "is_step_in", "is_step_in", defArgs (top 24), defBody (top 24), defScope (top 24), [], []⟩
def d_require_counted : He.DefD := ⟨("require_counted", none), "require_counted", "require_counted", defArgs (top 23), defBody (top 23), defScope (top 23), [], []⟩
def d_ore_numbers : He.DefD := ⟨("ore_numbers", none), "ore_numbers", "ore_numbers", defArgs (top 25), defBody (top 25), defScope (top 25), [], []⟩
def d_is_step_number : He.DefD := ⟨("is_step_number", none), "is_step_number", "is_step_number", defArgs (top 26), defBody (top 26), defScope (top 26), [], []⟩
def d_krasner_count : He.DefD := ⟨("krasner_count", none), "krasner_count", "krasner_count", defArgs (top 27), defBody (top 27), defScope (top 27), [], []⟩
def d_count_share : He.DefD := ⟨("count_share", none), "count_share", "count_share", defArgs (top 28), defBody (top 28), defScope (top 28), [], []⟩
def d_closure_count : He.DefD := ⟨("closure_count", none), "closure_count", "closure_count", defArgs (top 29), defBody (top 29), defScope (top 29), [], []⟩
def d__law_dice : He.DefD := ⟨("_law_dice", none), "_law_dice", "_law_dice", defArgs (top 31), defBody (top 31), defScope (top 31), [], []⟩
def d__law_roll : He.DefD := ⟨("_law_roll", none), "_law_roll", "_law_roll", defArgs (top 32), defBody (top 32), defScope (top 32), [], []⟩
def d__law_one_of : He.DefD := ⟨("_law_one_of", none), "_law_one_of", "_law_one_of", defArgs (top 33), defBody (top 33), defScope (top 33), [], []⟩
def d__law_power : He.DefD := ⟨("_law_power", none), "_law_power", "_law_power", defArgs (top 34), defBody (top 34), defScope (top 34), [], []⟩
def d__law_gcd : He.DefD := ⟨("_law_gcd", none), "_law_gcd", "_law_gcd", defArgs (top 35), defBody (top 35), defScope (top 35), [], []⟩
def d__law_lowest : He.DefD := ⟨("_law_lowest", none), "_law_lowest", "_law_lowest", defArgs (top 36), defBody (top 36), defScope (top 36), [], []⟩
def d__law_exponent : He.DefD := ⟨("_law_exponent", none), "_law_exponent", "_law_exponent", defArgs (top 37), defBody (top 37), defScope (top 37), [], []⟩
def d__law_ore : He.DefD := ⟨("_law_ore", none), "_law_ore", "_law_ore", defArgs (top 38), defBody (top 38), defScope (top 38), [], []⟩
def d__law_is_whole : He.DefD := ⟨("_law_is_whole", none), "_law_is_whole", "_law_is_whole", defArgs (top 39), defBody (top 39), defScope (top 39), [], []⟩
def d__law_share : He.DefD := ⟨("_law_share", none), "_law_share", "_law_share", defArgs (top 40), defBody (top 40), defScope (top 40), [], []⟩
def d__law_own_count : He.DefD := ⟨("_law_own_count", none), "_law_own_count", "_law_own_count", defArgs (top 41), defBody (top 41), defScope (top 41), [], []⟩
def d__law_sizes_right : He.DefD := ⟨("_law_sizes_right", none), "_law_sizes_right", "_law_sizes_right", defArgs (top 42), defBody (top 42), defScope (top 42), [], []⟩
def d__law_degree_right : He.DefD := ⟨("_law_degree_right", none), "_law_degree_right", "_law_degree_right", defArgs (top 43), defBody (top 43), defScope (top 43), [], []⟩
def d_law : He.DefD := ⟨("law", none), "law", "law", defArgs (top 44), defBody (top 44), defScope (top 44), [], []⟩
def fn : List He.DefD := ([d_is_whole_number, d_is_integer, d_is_within, d_power_of, d_exponent_in, d_ratio_in, d_require_prime, d_require_within, d_least_of_ore, d_ore_in, d_krasner_in, d_closure_count_in, d_require_sizes, d_is_step_in, d_require_counted, d_ore_numbers, d_is_step_number, d_krasner_count, d_count_share, d_closure_count, d__law_dice, d__law_roll, d__law_one_of, d__law_power, d__law_gcd] : List He.DefD) ++ ([d__law_lowest, d__law_exponent, d__law_ore, d__law_is_whole, d__law_share, d__law_own_count, d__law_sizes_right, d__law_degree_right, d_law] : List He.DefD)
def fa : List He.Fa := ([.glo "is_whole_number", .glo "is_integer", .glo "is_within", .glo "power_of", .glo "exponent_in", .glo "ratio_in", .glo "require_prime", .glo "require_within", .glo "least_of_ore", .glo "ore_in", .glo "krasner_in", .glo "closure_count_in", .glo "require_sizes", .glo "is_step_in", .glo "require_counted", .glo "ore_numbers", .glo "is_step_number", .glo "krasner_count", .glo "count_share", .glo "closure_count", .glo "_law_dice", .glo "_law_roll", .glo "_law_one_of", .glo "_law_power", .glo "_law_gcd"] : List He.Fa) ++ ([.glo "_law_lowest", .glo "_law_exponent", .glo "_law_ore", .glo "_law_is_whole", .glo "_law_share", .glo "_law_own_count", .glo "_law_sizes_right", .glo "_law_degree_right", .glo "law", .free "abs", .free "bool", .free "divmod", .free "int", .free "isinstance", .free "len", .free "list", .free "max", .free "min", .free "range", .free "repr", .free "sum", .free "tuple", .int "MOST_CLOSURE" (12), .int "MOST_PLAIN" (12), .int "MOST_STEP" (30)] : List He.Fa) ++ ([.int "SIXTY" (1000000000000000000000000000000000000000000000000000000000000), .glo "PRIMES"] : List He.Fa)
def ck (K : PySem.W.Frag) : Bool := He.tupB K "PRIMES" [.int (2), .int (3), .int (5), .int (7)] && (bltB K "gcd" "math.gcd" && (true))
theorem tx_of {K : PySem.W.Frag} {h : Heap} {mg : Str → Option Value} (X : K.In h) (G : h.Ns mainGlobals mg) (c : SaysF fa fn ck K) : Tx K mg := by
  have z := c.check
  obtain ⟨k0, z⟩ := He.ba z
  obtain ⟨k1, z⟩ := He.ba z
  exact ⟨He.free_ok X G (c.fact 34 (f := .free "abs") rfl),
    He.free_ok X G (c.fact 35 (f := .free "bool") rfl),
    He.free_ok X G (c.fact 36 (f := .free "divmod") rfl),
    He.free_ok X G (c.fact 37 (f := .free "int") rfl),
    He.free_ok X G (c.fact 38 (f := .free "isinstance") rfl),
    He.free_ok X G (c.fact 39 (f := .free "len") rfl),
    He.free_ok X G (c.fact 40 (f := .free "list") rfl),
    He.free_ok X G (c.fact 41 (f := .free "max") rfl),
    He.free_ok X G (c.fact 42 (f := .free "min") rfl),
    He.free_ok X G (c.fact 43 (f := .free "range") rfl),
    He.free_ok X G (c.fact 44 (f := .free "repr") rfl),
    He.free_ok X G (c.fact 45 (f := .free "sum") rfl),
    He.free_ok X G (c.fact 46 (f := .free "tuple") rfl),
    He.int_ok X G (c.fact 47 (f := .int "MOST_CLOSURE" (12)) rfl),
    He.int_ok X G (c.fact 48 (f := .int "MOST_PLAIN" (12)) rfl),
    He.int_ok X G (c.fact 49 (f := .int "MOST_STEP" (30)) rfl),
    He.int_ok X G (c.fact 50 (f := .int "SIXTY" (1000000000000000000000000000000000000000000000000000000000000)) rfl),
    He.glo_ok X G (c.fact 51 (f := .glo "PRIMES") rfl),
    fun H => He.tupB_ok k0 H,
    bltB_ok X G k1⟩
theorem dx_of {K : PySem.W.Frag} {h : Heap} {mg : Str → Option Value} (X : K.In h) (G : h.Ns mainGlobals mg) (c : SaysF fa fn ck K) : Dx K mg :=
  ⟨(let ⟨fd, F⟩ := c.def_ 0 (d := d_is_whole_number) rfl; ⟨fd, F, He.glo_ok X G (c.fact 0 (f := .glo "is_whole_number") rfl)⟩),
    (let ⟨fd, F⟩ := c.def_ 1 (d := d_is_integer) rfl; ⟨fd, F, He.glo_ok X G (c.fact 1 (f := .glo "is_integer") rfl)⟩),
    (let ⟨fd, F⟩ := c.def_ 2 (d := d_is_within) rfl; ⟨fd, F, He.glo_ok X G (c.fact 2 (f := .glo "is_within") rfl)⟩),
    (let ⟨fd, F⟩ := c.def_ 3 (d := d_power_of) rfl; ⟨fd, F, He.glo_ok X G (c.fact 3 (f := .glo "power_of") rfl)⟩),
    (let ⟨fd, F⟩ := c.def_ 4 (d := d_exponent_in) rfl; ⟨fd, F, He.glo_ok X G (c.fact 4 (f := .glo "exponent_in") rfl)⟩),
    (let ⟨fd, F⟩ := c.def_ 5 (d := d_ratio_in) rfl; ⟨fd, F, He.glo_ok X G (c.fact 5 (f := .glo "ratio_in") rfl)⟩),
    (let ⟨fd, F⟩ := c.def_ 6 (d := d_require_prime) rfl; ⟨fd, F, He.glo_ok X G (c.fact 6 (f := .glo "require_prime") rfl)⟩),
    (let ⟨fd, F⟩ := c.def_ 7 (d := d_require_within) rfl; ⟨fd, F, He.glo_ok X G (c.fact 7 (f := .glo "require_within") rfl)⟩),
    (let ⟨fd, F⟩ := c.def_ 8 (d := d_least_of_ore) rfl; ⟨fd, F, He.glo_ok X G (c.fact 8 (f := .glo "least_of_ore") rfl)⟩),
    (let ⟨fd, F⟩ := c.def_ 9 (d := d_ore_in) rfl; ⟨fd, F, He.glo_ok X G (c.fact 9 (f := .glo "ore_in") rfl)⟩),
    (let ⟨fd, F⟩ := c.def_ 10 (d := d_krasner_in) rfl; ⟨fd, F, He.glo_ok X G (c.fact 10 (f := .glo "krasner_in") rfl)⟩),
    (let ⟨fd, F⟩ := c.def_ 11 (d := d_closure_count_in) rfl; ⟨fd, F, He.glo_ok X G (c.fact 11 (f := .glo "closure_count_in") rfl)⟩),
    (let ⟨fd, F⟩ := c.def_ 12 (d := d_require_sizes) rfl; ⟨fd, F, He.glo_ok X G (c.fact 12 (f := .glo "require_sizes") rfl)⟩),
    (let ⟨fd, F⟩ := c.def_ 13 (d := d_is_step_in) rfl; ⟨fd, F, He.glo_ok X G (c.fact 13 (f := .glo "is_step_in") rfl)⟩),
    (let ⟨fd, F⟩ := c.def_ 14 (d := d_require_counted) rfl; ⟨fd, F, He.glo_ok X G (c.fact 14 (f := .glo "require_counted") rfl)⟩),
    (let ⟨fd, F⟩ := c.def_ 15 (d := d_ore_numbers) rfl; ⟨fd, F, He.glo_ok X G (c.fact 15 (f := .glo "ore_numbers") rfl)⟩),
    (let ⟨fd, F⟩ := c.def_ 16 (d := d_is_step_number) rfl; ⟨fd, F, He.glo_ok X G (c.fact 16 (f := .glo "is_step_number") rfl)⟩),
    (let ⟨fd, F⟩ := c.def_ 17 (d := d_krasner_count) rfl; ⟨fd, F, He.glo_ok X G (c.fact 17 (f := .glo "krasner_count") rfl)⟩),
    (let ⟨fd, F⟩ := c.def_ 18 (d := d_count_share) rfl; ⟨fd, F, He.glo_ok X G (c.fact 18 (f := .glo "count_share") rfl)⟩),
    (let ⟨fd, F⟩ := c.def_ 19 (d := d_closure_count) rfl; ⟨fd, F, He.glo_ok X G (c.fact 19 (f := .glo "closure_count") rfl)⟩),
    (let ⟨fd, F⟩ := c.def_ 20 (d := d__law_dice) rfl; ⟨fd, F, He.glo_ok X G (c.fact 20 (f := .glo "_law_dice") rfl)⟩),
    (let ⟨fd, F⟩ := c.def_ 21 (d := d__law_roll) rfl; ⟨fd, F, He.glo_ok X G (c.fact 21 (f := .glo "_law_roll") rfl)⟩),
    (let ⟨fd, F⟩ := c.def_ 22 (d := d__law_one_of) rfl; ⟨fd, F, He.glo_ok X G (c.fact 22 (f := .glo "_law_one_of") rfl)⟩),
    (let ⟨fd, F⟩ := c.def_ 23 (d := d__law_power) rfl; ⟨fd, F, He.glo_ok X G (c.fact 23 (f := .glo "_law_power") rfl)⟩),
    (let ⟨fd, F⟩ := c.def_ 24 (d := d__law_gcd) rfl; ⟨fd, F, He.glo_ok X G (c.fact 24 (f := .glo "_law_gcd") rfl)⟩),
    (let ⟨fd, F⟩ := c.def_ 25 (d := d__law_lowest) rfl; ⟨fd, F, He.glo_ok X G (c.fact 25 (f := .glo "_law_lowest") rfl)⟩),
    (let ⟨fd, F⟩ := c.def_ 26 (d := d__law_exponent) rfl; ⟨fd, F, He.glo_ok X G (c.fact 26 (f := .glo "_law_exponent") rfl)⟩),
    (let ⟨fd, F⟩ := c.def_ 27 (d := d__law_ore) rfl; ⟨fd, F, He.glo_ok X G (c.fact 27 (f := .glo "_law_ore") rfl)⟩),
    (let ⟨fd, F⟩ := c.def_ 28 (d := d__law_is_whole) rfl; ⟨fd, F, He.glo_ok X G (c.fact 28 (f := .glo "_law_is_whole") rfl)⟩),
    (let ⟨fd, F⟩ := c.def_ 29 (d := d__law_share) rfl; ⟨fd, F, He.glo_ok X G (c.fact 29 (f := .glo "_law_share") rfl)⟩),
    (let ⟨fd, F⟩ := c.def_ 30 (d := d__law_own_count) rfl; ⟨fd, F, He.glo_ok X G (c.fact 30 (f := .glo "_law_own_count") rfl)⟩),
    (let ⟨fd, F⟩ := c.def_ 31 (d := d__law_sizes_right) rfl; ⟨fd, F, He.glo_ok X G (c.fact 31 (f := .glo "_law_sizes_right") rfl)⟩),
    (let ⟨fd, F⟩ := c.def_ 32 (d := d__law_degree_right) rfl; ⟨fd, F, He.glo_ok X G (c.fact 32 (f := .glo "_law_degree_right") rfl)⟩),
    (let ⟨fd, F⟩ := c.def_ 33 (d := d_law) rfl; ⟨fd, F, He.glo_ok X G (c.fact 33 (f := .glo "law") rfl)⟩)⟩
abbrev Rw : PySem.W.OpenRow := PySem.W.OpenLaw.row PySem.Challenge.rw_wildsteps_k53_whole_step_numbers_and_cou
abbrev hk : PySem.W.Hook := hookF 5 fa fn ck
def ob (s : PySem.W.SharedT) : He.AlD := obsFG 5 fa fn ck (HandSHeadRun.getT s)
theorem ob_eq (s : PySem.W.SharedT) : ob s = hk.obs s.abs := obsFG_eq (HandSHeadRun.getT_eq s)
def loose : List PySem.Str := (["InvalidNumber", "PRIMES", "SIXTY", "is_whole_number", "is_integer", "is_within", "power_of", "exponent_in", "ratio_in", "require_prime", "require_within", "MOST_PLAIN", "MOST_STEP", "MOST_CLOSURE", "least_of_ore", "ore_in", "krasner_in", "closure_count_in", "require_sizes", "require_counted", "is_step_in", "ore_numbers", "is_step_number", "krasner_count", "count_share", "closure_count", "_law_dice", "_law_roll", "_law_one_of", "_law_power"] : List PySem.Str) ++ (["_law_gcd", "_law_lowest", "_law_exponent", "_law_ore", "_law_is_whole", "_law_share", "_law_own_count", "_law_sizes_right", "_law_degree_right"] : List PySem.Str)
theorem run (w : World) : HandSHeadRun.RunEqI Rw (PySem.W.view Rw.prog [0, 44]) hk ob 30000 loose w := by
  unfold HandSHeadRun.RunEqI
  kernel_rfl
end LW
open PySem PySem.W PySem.Calls PyProof.Rows
theorem LW.holds_of (law_true : ∀ ns : List Int, ns.length ≤ 63 → ∃ S, LW.m_law [.frz (ns.map FX.IV.int)] ⟨0, []⟩ = .ok (.bl true) S) : PySem.Challenge.rw_wildsteps_k53_whole_step_numbers_and_cou.Holds := by
  w_on; o_law
  refine HandSHeadRun.head_imp (r := OpenLaw.row PySem.Challenge.rw_wildsteps_k53_whole_step_numbers_and_cou) (q := view (OpenLaw.row PySem.Challenge.rw_wildsteps_k53_whole_step_numbers_and_cou).prog [0, 44]) (H := LW.hk) (ob := LW.ob) (M := 30000) (loose := LW.loose) (d := HandSHeadRun.topDef (OpenLaw.row PySem.Challenge.rw_wildsteps_k53_whole_step_numbers_and_cou).prog 44) (kwd := []) LW.ob_eq
    LW.run (by kernel_rfl) (by kernel_rfl) (by kernel_rfl) (by rfl) (by first | assumption | decide +kernel) (by decide +kernel) ⟨rfl, rfl, rfl, rfl, rfl, by decide +kernel⟩ ?hw ?hc
  case hw => w_witness2
  case hc =>
    refine L2.walk_ofE (l := PySem.Challenge.rw_wildsteps_k53_whole_step_numbers_and_cou) (n := 63) (k := 8) (x := "_law_script") (CX := L2.CX0) rfl (by decide) (by kernel_rfl) ⟨rfl, by decide, by decide⟩ ?F (fun _ _ _ _ z => z)
    intro w mg fa h Y G hmg0
    obtain ⟨K, KX, c⟩ := Y
    have hmg : mg ("law" : PySem.Str) = some (.ref fa) := by
      have e : (HandSHeadRun.topDef (OpenLaw.row PySem.Challenge.rw_wildsteps_k53_whole_step_numbers_and_cou).prog 44).name = ("law" : PySem.Str) := by kernel_rfl
      rw [← e]
      exact hmg0
    have T := LW.tx_of KX G c
    have D := LW.dx_of KX G c
    obtain ⟨fd0, F0, hm0⟩ := D.d_law
    have e := hmg.symm.trans hm0
    cases e
    have b := L2.FunD.bindsA (ps := ["_law_script"]) F0 fun _ _ _ _ _ _ us hl => match us, hl with | [_], _ => rfl
    exact ⟨K, fd0, (fun vs H Q _ => FX.spI (LW.CW K) 1 LW.m_law vs H Q fun _ _ _ => False), KX, fun s v => b s [v] rfl, fun H a ns hl hO hS => FX.law_sp (C := LW.CW K) law_true hl hO hS, fun base _ _ => FX.fnOk0 (LW.k_law T D F0)⟩

set_option Elab.async false
set_option linter.all false
set_option maxRecDepth 100000
set_option maxHeartbeats 2000000
set_option autoImplicit false
namespace P53
open PySem PySem.Spec PyProof.Rows L2 FX FX.Ar
theorem rangeI_cast : ∀ (k s : Nat), rangeI (s : Int) k = (List.range' s k).map fun n : Nat => IV.int (n : Int)
  | 0, _ => rfl
  | k + 1, s => by
    show IV.int (s : Int) :: rangeI ((s : Int) + 1) k = IV.int (s : Int) :: (List.range' (s + 1) k).map _
    rw [← rangeI_cast k (s + 1)]
    rfl
theorem sum_cast (l : List Nat) : (l.map fun n : Nat => (n : Int)).sum = ((l.sum : Nat) : Int) := by
  induction l with
  | nil => rfl
  | cons a l ih => rw [List.map_cons, List.sum_cons, ih, List.sum_cons, Int.natCast_add]
def turnSum (p e T : Nat) : Nat := ((List.range' 1 T).map fun i => e / p ^ i).sum
def krA (p e j : Nat) : Nat := turnSum p e (j / e) + (if j % e = 0 then 0 else (j % e - 1) / p ^ (j / e + 1))
def krN (p q e j : Nat) : Nat := (if j % e = 0 then e else e * (q - 1)) * q ^ krA p e j
theorem pw (b n M : Nat) (S : Sto) (hb : 1 ≤ b) (hM : b ^ n < 2 ^ M) (hM2 : M < 400000) (hn : n < 90000) : own LW.m_power_of [.int b, .int n] S = .ok (.int ((b ^ n : Nat) : Int)) S :=
  own_flat rfl (power_of_ok b n M ⟨0, []⟩ hb hM hM2 hn) rfl S
theorem lpw (b n M : Nat) (S : Sto) (hb : 1 ≤ b) (hM : b ^ n < 2 ^ M) (hM2 : M < 400000) (hn : n < 90000) : own LW.m__law_power [.int b, .int n] S = .ok (.int ((b ^ n : Nat) : Int)) S :=
  own_flat rfl (lpow_ok b n M ⟨0, []⟩ hb hM hM2 hn) rfl S
theorem pow_bound {q a M A : Nat} (hq : q < 2 ^ M) (ha : a ≤ A) : q ^ a < 2 ^ (M * A + 1) := by
  have h1 : q ^ a ≤ (2 ^ M) ^ a := Nat.pow_le_pow_left (Nat.le_of_lt hq) a
  have h2 : (2 ^ M) ^ a = 2 ^ (M * a) := (Nat.pow_mul 2 M a).symm
  have h3 : 2 ^ (M * a) < 2 ^ (M * A + 1) := Nat.pow_lt_pow_right (by decide) (Nat.lt_succ_of_le (Nat.mul_le_mul_left M ha))
  omega
theorem mulN {x y a b : Nat} (hx : x < 2 ^ a) (hy : y < 2 ^ b) (h : a + b < 1000000) : mulFit (x : Int) (y : Int) = true := mulFit_of (a := a) (b := b) hx hy h
theorem divN {x a : Nat} (h0 : 0 < x) (hx : x < 2 ^ a) (h : a < 9000) : divFit (x : Int) = true := Ar.divFit_of (a := a) (by omega) hx h
theorem krasner_ok (p f e j : Nat) (S : Sto) (hp : 1 ≤ p) (hf : f < 1000) (hq : p ^ f < 2 ^ 40) (he : 1 ≤ e) (he2 : e < 2 ^ 20) (hj : j < 2 ^ 20) (ht : p ^ (j / e + 1) < 2 ^ 40) (ht2 : j / e < 1000) (hA : krA p e j ≤ 200) :
    ∃ S', LW.m_krasner_in [.int p, .int f, .int e, .int j] S = .ok (.int (krN p (p ^ f) e j : Nat)) S' := by
  have hq1 : 1 ≤ p ^ f := Nat.pow_pos hp
  have pb : ∀ i, i ≤ j / e + 1 → p ^ i < 2 ^ 40 := fun i hi => Nat.lt_of_le_of_lt (Nat.pow_le_pow_right hp hi) ht
  unfold krN krA at *
  generalize hT : j / e = T at *
  generalize hR : j % e = u at *
  generalize hQ : p ^ f = q at *
  have hqa : ∀ a, a ≤ 200 → q ^ a < 2 ^ (40 * 200 + 1) := fun a ha => pow_bound hq ha
  generalize hM : 40 * 200 + 1 = M at hqa
  have hM2 : M = 8001 := by rw [← hM]
  refine ⟨S.new (.lst (((List.range' 1 T).map fun i => ((e / p ^ i : Nat) : Int)).map IV.int)), ?_⟩
  generalize hS1 : S.new (.lst (((List.range' 1 T).map fun i => ((e / p ^ i : Nat) : Int)).map IV.int)) = S1
  refine mDef_rt (E := [some (.int p), some (.int f), some (.int e), some (.int j), none, none, none, none, none]) rfl ?_
  unfold LW.b_krasner_in
  have hN1 : T < 1000000 := by omega
  generalize 1000000 = N at *
  refine (mSeq_nx (E1 := [some (.int p), some (.int f), some (.int e), some (.int j), some (.int T), some (.int u), none, none, none]) (S1 := S) ?_).trans ?_
  · have h : bDivmod [.int j, .int e] S = .ok (.tup [.int T, .int u]) S := by
      show (bif (decide ((0 : Int) < e) && decide ((e : Int) < 1073741824)) then _ else _) = _
      rw [decide_eq_true (by omega), decide_eq_true (by omega), ← hT, ← hR]
      rfl
    simp only [mAsg, mCall, mCons, mNil, mV, R.bind, R.to, List.getElem?_cons_zero, List.getElem?_cons_succ, h]
    rfl
  refine (mSeq_nx (E1 := [some (.int p), some (.int f), some (.int e), some (.int j), some (.int T), some (.int u), some (.int q), none, none]) (S1 := S) ?_).trans ?_
  · have h := pw p f 40 S hp (by rw [hQ]; exact hq) (by decide) (by omega)
    rw [hQ] at h
    simp only [mSet, mCallO, mCons, mNil, mV, R.bind, R.to, List.getElem?_cons_zero, List.getElem?_cons_succ, h]
    rfl
  refine (mSeq_nx (E1 := [some (.int p), some (.int f), some (.int e), some (.int j), some (.int T), some (.int u), some (.int q), some (.int (turnSum p e T : Nat)), none]) (S1 := S1) ?_).trans ?_
  · have hw : mWk fRange (mCons (mC (.int 1)) (mCons (mB fAdd (mV 4) (mC (.int 1))) mNil)) [some (.int p), some (.int f), some (.int e), some (.int j), some (.int T), some (.int u), some (.int q), none, none] S = .ok (.items (rangeI 1 T)) S := by
      refine (mWk_range2 (i := 1) (j := (T : Int) + 1) rfl rfl (by decide) (by decide) (by omega) (by omega)).trans ?_
      congr 3
      omega
    have hl := mLc_wk (tg := .name 8) (t := mYes) (e := mB fDiv (mV 2) (mCallO LW.m_power_of (mCons (mV 0) (mCons (mV 8) mNil)))) (vs := [8]) (N := N) (fun x => match x with | .int i => .int ((e / p ^ i.toNat : Nat) : Int) | x => x) hw (by rw [len_rangeI]; exact hN1) ?_
    · have hm : (rangeI 1 T).map (fun x => match x with | .int i => .int ((e / p ^ i.toNat : Nat) : Int) | x => x) = ((List.range' 1 T).map fun i => ((e / p ^ i : Nat) : Int)).map IV.int := by
        have := rangeI_cast T 1
        rw [show ((1 : Nat) : Int) = 1 from rfl] at this
        rw [this, List.map_map, List.map_map]
        rfl
      rw [hm, hS1] at hl
      have g : S1.get S.top = some (.lst (((List.range' 1 T).map fun i => ((e / p ^ i : Nat) : Int)).map IV.int)) := by
        rw [← hS1]
        exact get_new S _
      have hs := bSum_lst g
      have hc : ((List.range' 1 T).map fun i => ((e / p ^ i : Nat) : Int)).sum = ((turnSum p e T : Nat) : Int) := by
        unfold turnSum
        rw [← sum_cast, List.map_map]
        rfl
      rw [hc] at hs
      exact mSet_ok (mCall_ok (mCons_ok hl mNil_ok) hs)
    · intro x hx
      obtain ⟨m, rfl, hm⟩ := mem_rangeI T 1 x hx
      refine ⟨_, rfl, rfl, ?_⟩
      have h1 : (1 : Int) + (m : Int) = ((1 + m : Nat) : Int) := by omega
      rw [h1]
      have hpm := pb (1 + m) (by omega)
      have h := pw p (1 + m) 40 S hp hpm (by decide) (by omega)
      have hd : divFit ((p ^ (1 + m) : Nat) : Int) = true := Ar.divFit_of (a := 40) (by have := Nat.pow_pos (n := 1 + m) hp; omega) (by simpa using hpm) (by omega)
      have hwp : wipeE [some (IV.int p), some (.int f), some (.int e), some (.int j), some (.int T), some (.int u), some (.int q), none, none] [8] = [some (IV.int p), some (.int f), some (.int e), some (.int j), some (.int T), some (.int u), some (.int q), none, none] := rfl
      rw [hwp]
      simp only [mB, mCallO, mCons, mNil, mV, R.bind, List.set_cons_succ, List.set_cons_zero, List.getElem?_cons_zero, List.getElem?_cons_succ, h, fDiv, hd, cond_true, div_cast, Int.toNat_natCast]
  generalize turnSum p e T = t at *
  have hqq := pw q
  by_cases h0 : u = 0
  · rw [if_pos h0] at *
    rw [if_pos h0]
    have h := hqq t M S1 hq1 (hqa t (by omega)) (by omega) (by omega)
    have m : mulFit (e : Int) ((q ^ t : Nat) : Int) = true := mulN (a := 20) (b := M) he2 (hqa t (by omega)) (by omega)
    have hz' : decide ((u : Int) = 0) = true := decide_eq_true (by omega)
    have e1 : mIfS (mTB (mB fEq (mV 5) (mC (.int 0)))) (mRet (mB fMul (mV 2) (mCallO LW.m_power_of (mCons (mV 6) (mCons (mV 7) mNil))))) mSkip [some (.int p), some (.int f), some (.int e), some (.int j), some (.int T), some (.int u), some (.int q), some (.int t), none] S1 = .rt (.int ((e * q ^ t : Nat) : Int)) S1 := by
      simp only [mIfS, mTB, mC, fEq, eqIV, hz', cond_true, mRet, mB, mCallO, mCons, mNil, mV, R.bind, R.to, List.getElem?_cons_zero, List.getElem?_cons_succ, h, fMul, okI, m]
      rw [Int.natCast_mul]
    unfold mSeq
    rw [e1]
    rfl
  · rw [if_neg h0] at *
    rw [if_neg h0]
    have hpT : p ^ (T + 1) < 2 ^ 40 := pb (T + 1) (Nat.le_refl _)
    have hp1 := pw p (T + 1) 40 S1 hp hpT (by decide) (by omega)
    have hd : divFit ((p ^ (T + 1) : Nat) : Int) = true := Ar.divFit_of (a := 40) (by have := Nat.pow_pos (n := T + 1) hp; omega) (by simpa using hpT) (by omega)
    generalize hB : (u - 1) / p ^ (T + 1) = B at *
    have h := hqq (t + B) M S1 hq1 (hqa _ hA) (by omega) (by omega)
    have m1 : mulFit (e : Int) ((q - 1 : Nat) : Int) = true := mulN (a := 20) (b := 40) he2 (by omega) (by omega)
    have m2 : mulFit ((e * (q - 1) : Nat) : Int) ((q ^ (t + B) : Nat) : Int) = true := mulN (a := 60) (b := M) (by
      have : e * (q - 1) < 2 ^ 20 * 2 ^ 40 := Nat.mul_lt_mul'' he2 (by omega)
      omega) (hqa (t + B) hA) (by omega)
    have hz : (0 : Int) ≠ (u : Int) := by omega
    refine (mSeq_nx (E1 := [some (.int p), some (.int f), some (.int e), some (.int j), some (.int T), some (.int u), some (.int q), some (.int t), none]) (S1 := S1) ?_).trans ?_
    · have hz' : decide ((u : Int) = 0) = false := decide_eq_false (by omega)
      simp only [mIfS, mTB, mB, mV, mC, R.bind, R.to, List.getElem?_cons_zero, List.getElem?_cons_succ, fEq, eqIV, hz', cond_false, mSkip]
    · have a1 : (q : Int) - 1 = ((q - 1 : Nat) : Int) := by omega
      have a2 : ((u : Int) - 1) / ((p ^ (T + 1) : Nat) : Int) = (B : Int) := by
        have : (u : Int) - 1 = ((u - 1 : Nat) : Int) := by omega
        rw [this, div_cast, hB]
      have a3 : (T : Int) + 1 = ((T + 1 : Nat) : Int) := by omega
      have a4 : (t : Int) + (B : Int) = ((t + B : Nat) : Int) := by omega
      simp only [mRet, mB, mCallO, mCons, mNil, mV, mC, R.bind, R.to, List.getElem?_cons_zero, List.getElem?_cons_succ, fSub, a1, fMul, okI, m1, cond_true, a3, hp1, fDiv, hd, a2, fAdd, a4, h, ← Int.natCast_mul, m2]
end P53

set_option Elab.async false
set_option linter.all false
set_option maxRecDepth 100000
set_option maxHeartbeats 2000000
set_option autoImplicit false
namespace P53
open PySem PySem.Spec PyProof.Rows L2 FX FX.Ar
def lwF (e : Nat) : Nat → Nat → Nat → Nat → Nat
  | 0, _, _, l => l
  | n + 1, cur, c, l => if cur < c then lwF e n (cur + e) c (l + 1) else l
def lwC (e j k : Nat) : Nat := e + j + (if k = j % e then 0 else 1)
def lwL (p e j k : Nat) : Nat := lwF e (lwC e j k - (e * (expo p k + 1) + k)) (e * (expo p k + 1) + k) (lwC e j k) 1
def Ks (p e j : Nat) : Nat → Nat
  | 0 => 0
  | k + 1 => Ks p e j k + (lwL p e j (k + 1) - 1) + (if k + 1 = j % e then 1 else 0)
theorem Ks_le (p e j k : Nat) : ∀ m, Ks p e j k ≤ Ks p e j (k + m)
  | 0 => Nat.le_refl _
  | m + 1 => Nat.le_trans (Ks_le p e j k m) (by show Ks p e j (k + m) ≤ Ks p e j (k + m) + _ + _; omega)
theorem expoF_le (p : Nat) : ∀ n m, expoF n p m ≤ n
  | 0, _ => Nat.le_refl _
  | n + 1, m => by
    have := expoF_le p n (m / p)
    unfold expoF
    split <;> omega
theorem expo_le {p k a : Nat} (h : k < 2 ^ a) (h0 : k ≠ 0) : expo p k ≤ a := by
  have h1 : k.log2 < a := (Nat.log2_lt h0).mpr h
  exact Nat.le_trans (expoF_le p _ _) h1
def Ev (p f e j q b top bot : Int) (x y : Option IV) : Env' := [some (.int p), some (.int f), some (.int e), some (.int j), some (.int q), some (.int b), some (.int top), some (.int bot), x, y]
def wt : MT := mTB (mB fLt (mB fAdd (mB fMul (mV 2) (mB fAdd (mCallO LW.m__law_exponent (mCons (mV 0) (mCons (mV 8) mNil))) (mV 9))) (mV 8)) (mB fAdd (mB fAdd (mV 2) (mV 3)) (mCall bInt (mCons (mB fNe (mV 8) (mV 5)) mNil))))
def wb : MS := mSet 9 (mB fAdd (mV 9) (mC (.int 1)))
theorem wt_ok (p f e j q b top bot k l v : Int) (S : Sto) (hv : own LW.m__law_exponent [.int p, .int k] S = .ok (.int v) S) (hm : mulFit e (v + l) = true) :
    wt (Ev p f e j q b top bot (some (.int k)) (some (.int l))) S = .ok (decide (e * (v + l) + k < e + j + (if k = b then 0 else 1))) S := by
  have hmul : fMul (.int e) (.int (v + l)) S = .ok (.int (e * (v + l))) S := by
    show okI (mulFit e (v + l)) (e * (v + l)) S = _
    rw [hm]
    rfl
  have hb : bInt [.bl (!decide (k = b))] S = .ok (.int (if k = b then 0 else 1)) S := by
    by_cases h : k = b
    · rw [if_pos h, decide_eq_true h]; rfl
    · rw [if_neg h, decide_eq_false h]; rfl
  exact mTB_ok (mB_ok (mB_ok (mB_ok rfl (mB_ok (mCallO_ok (mCons_ok rfl (mCons_ok rfl mNil_ok)) hv) rfl rfl) hmul) rfl rfl) (mB_ok (mB_ok rfl rfl rfl) (mCall_ok (mCons_ok (mB_ok rfl rfl fNe_int) mNil_ok) hb) rfl) rfl)
theorem lexp (p k : Nat) (S : Sto) (hp : 2 ≤ p) (hp2 : p < 2 ^ 20) (hk : k ≠ 0) (hk2 : k < 2 ^ 20) : own LW.m__law_exponent [.int p, .int k] S = .ok (.int (expo p k : Nat)) S :=
  own_flat rfl (lexp_ok p k ⟨0, []⟩ hp hk (by have : k.log2 < 20 := (Nat.log2_lt hk).mpr hk2
                                              omega) (Nat.lt_of_lt_of_le hp2 (Nat.pow_le_pow_right (by decide) (by decide)))) rfl S
theorem while_ok (p e j b k : Nat) (f q top bot : Int) (S : Sto) (N : Nat) (hb : b = j % e) (hp : 2 ≤ p) (hp2 : p < 2 ^ 20) (hk : k ≠ 0) (hk2 : k < 2 ^ 20) (he : 1 ≤ e) (he2 : e < 2 ^ 20) (hj : j < 2 ^ 20) (hN : e + j + 1 < N) :
    mWhile wt wb N (Ev p f e j q b top bot (some (.int k)) (some (.int 1))) S = .nx (Ev p f e j q b top bot (some (.int k)) (some (.int (lwL p e j k : Nat)))) S := by
  have hv := lexp p k S hp hp2 hk hk2
  have hle : expo p k ≤ 20 := expo_le hk2 hk
  have hC : lwC e j k ≤ e + j + 1 := by
    unfold lwC
    split <;> omega
  unfold lwL
  generalize hvv : expo p k = v at *
  have key := while_inv (t := wt) (b := wb) (fun n E S' => ∃ (l cur : Nat) (li : Int), li = l ∧ E = Ev p f e j q b top bot (some (.int k)) (some (.int li)) ∧ S' = S ∧ cur = e * (v + l) + k ∧ lwC e j k - cur ≤ n ∧ l ≤ lwC e j k + 1 ∧ lwF e (lwC e j k - cur) cur (lwC e j k) l = lwF e (lwC e j k - (e * (v + 1) + k)) (e * (v + 1) + k) (lwC e j k) 1)
    (fun E S' => S' = S ∧ E = Ev p f e j q b top bot (some (.int k)) (some (.int ((lwF e (lwC e j k - (e * (v + 1) + k)) (e * (v + 1) + k) (lwC e j k) 1 : Nat) : Int)))) ?_ N (lwC e j k) (Ev p f e j q b top bot (some (.int k)) (some (.int 1))) S (by omega) ⟨1, _, 1, rfl, rfl, rfl, rfl, Nat.sub_le _ _, by omega, rfl⟩
  · obtain ⟨E', S', h1, rfl, rfl⟩ := key
    exact h1
  · rintro n E S' ⟨l, cur, li, rfl, rfl, rfl, hc, hn, hl, hL⟩
    have hm : mulFit (e : Int) ((v : Int) + (l : Int)) = true := by
      have := mulN (x := e) (y := v + l) (a := 20) (b := 40) he2 (by omega) (by omega)
      rw [Int.natCast_add] at this
      exact this
    have ht := wt_ok (p : Int) f (e : Int) (j : Int) q (b : Int) top bot (k : Int) (l : Int) (v : Int) S' hv hm
    have hd : decide ((e : Int) * ((v : Int) + (l : Int)) + (k : Int) < (e : Int) + (j : Int) + (if (k : Int) = (b : Int) then 0 else 1)) = decide (cur < lwC e j k) := by
      have h1 : (e : Int) * ((v : Int) + (l : Int)) + (k : Int) = (cur : Int) := by
        rw [hc, Int.natCast_add, Int.natCast_mul, Int.natCast_add]
      have h2 : (e : Int) + (j : Int) + (if (k : Int) = (b : Int) then 0 else 1) = (lwC e j k : Int) := by
        unfold lwC
        rw [← hb]
        by_cases h : k = b
        · rw [if_pos h, if_pos (by omega)]; omega
        · rw [if_neg h, if_neg (by omega)]; omega
      rw [h1, h2]
      exact decide_eq_decide.mpr Int.ofNat_lt
    rw [hd] at ht
    by_cases hlt : cur < lwC e j k
    · right
      have hel : l ≤ e * (v + l) := Nat.le_trans (Nat.le_add_left l v) (Nat.le_mul_of_pos_left _ he)
      have hcur : e * (v + (l + 1)) + k = cur + e := by rw [hc, Nat.mul_add, Nat.mul_add, Nat.mul_add]; omega
      have hsub : lwC e j k - cur = (lwC e j k - cur - 1) + 1 := by omega
      refine ⟨S', Ev p f e j q b top bot (some (.int k)) (some (.int ((l : Int) + 1))), S', lwC e j k - (cur + e), by rw [ht, decide_eq_true hlt], rfl, by omega, l + 1, cur + e, (l : Int) + 1, by omega, rfl, rfl, by rw [hcur], Nat.le_refl _, by omega, ?_⟩
      rw [← hL, hsub]
      show _ = (if cur < lwC e j k then lwF e (lwC e j k - cur - 1) (cur + e) (lwC e j k) (l + 1) else l)
      rw [if_pos hlt]
      have mono : ∀ (n m cur c l : Nat), c - cur ≤ n → c - cur ≤ m → lwF e n cur c l = lwF e m cur c l := by
        intro n
        induction n with
        | zero =>
          intro m cur c l h1 h2
          cases m with
          | zero => rfl
          | succ m =>
            unfold lwF
            rw [if_neg (by omega)]
        | succ n ih =>
          intro m cur c l h1 h2
          by_cases h : cur < c
          · cases m with
            | zero => omega
            | succ m =>
              unfold lwF
              rw [if_pos h, if_pos h]
              exact ih m (cur + e) c (l + 1) (by omega) (by omega)
          · have e1 : ∀ m, lwF e m cur c l = l := by
              intro m
              cases m with
              | zero => rfl
              | succ m =>
                unfold lwF
                rw [if_neg h]
            rw [e1, e1]
      exact mono _ _ _ _ _ (by omega) (by omega)
    · left
      refine ⟨S', by rw [ht, decide_eq_false hlt], rfl, ?_⟩
      rw [← hL]
      have : lwF e (lwC e j k - cur) cur (lwC e j k) l = l := by
        rw [show lwC e j k - cur = 0 by omega]
        rfl
      rw [this]
end P53

set_option Elab.async false
set_option linter.all false
set_option maxRecDepth 100000
set_option maxHeartbeats 2000000
set_option autoImplicit false
namespace P53
open PySem PySem.Spec PyProof.Rows L2 FX FX.Ar
def fb (N : Nat) : MS := mSeq (mSet 9 (mC (.int 1)))
    (mSeq (mWhile wt wb N)
    (mSeq (mSet 7 (mB fMul (mV 7) (mCallO LW.m__law_power (mCons (mV 4) (mCons (mB fSub (mV 9) (mC (.int 1))) mNil)))))
    (mIfS (mTB (mB fEq (mV 8) (mV 5))) (mPar 6 7 (mCons (mB fMul (mV 6) (mB fSub (mV 4) (mC (.int 1)))) (mCons (mB fMul (mV 7) (mV 4)) mNil))) mSkip)))
theorem lwF_ge (e : Nat) : ∀ n cur c l, l ≤ lwF e n cur c l
  | 0, _, _, l => Nat.le_refl _
  | n + 1, cur, c, l => by
    unfold lwF
    split
    · exact Nat.le_trans (Nat.le_succ l) (lwF_ge e n _ _ _)
    · exact Nat.le_refl _
theorem fb_ok (p e j k q A bot top : Nat) (f : Int) (x y : Option IV) (S : Sto) (N : Nat) (hp : 2 ≤ p) (hp2 : p < 2 ^ 20) (hk : k + 1 < 2 ^ 20) (he : 1 ≤ e) (he2 : e < 2 ^ 20) (hj : j < 2 ^ 20) (hN : e + j + 1 < N)
    (hq1 : 1 ≤ q) (hq : q < 2 ^ 40) (hA : Ks p e j (k + 1) ≤ A) (hA2 : A ≤ 1000) (hbot : bot = q ^ Ks p e j k) (htop : top < 2 ^ 100) :
    fb N (Ev p f e j q ((j % e : Nat) : Int) top bot (some (.int ((k + 1 : Nat) : Int))) y) S = .nx (Ev p f e j q ((j % e : Nat) : Int) ((if k + 1 = j % e then top * (q - 1) else top : Nat) : Int) ((q ^ Ks p e j (k + 1) : Nat) : Int) (some (.int ((k + 1 : Nat) : Int))) (some (.int (lwL p e j (k + 1) : Nat)))) S := by
  have hKs : Ks p e j (k + 1) = Ks p e j k + (lwL p e j (k + 1) - 1) + (if k + 1 = j % e then 1 else 0) := rfl
  have hL1 : 1 ≤ lwL p e j (k + 1) := lwF_ge _ _ _ _ _
  have hw := while_ok p e j (j % e) (k + 1) f q top bot S N rfl hp hp2 (by omega) hk he he2 hj hN
  generalize hLL : lwL p e j (k + 1) = l at *
  generalize hKk : Ks p e j k = K at *
  generalize hKK : Ks p e j (k + 1) = K' at *
  have hqa : ∀ a, a ≤ 1000 → q ^ a < 2 ^ (40 * 1000 + 1) := fun a ha => pow_bound hq ha
  generalize hM : 40 * 1000 + 1 = M at hqa
  have hM2 : M = 40001 := by rw [← hM]
  have hl1 : K + (l - 1) ≤ 1000 := by
    split at hKs <;> omega
  unfold fb
  refine (mSeq_nx (E1 := Ev p f e j q ((j % e : Nat) : Int) top bot (some (.int ((k + 1 : Nat) : Int))) (some (.int 1))) (S1 := S) rfl).trans ?_
  refine (mSeq_nx hw).trans ?_
  have hpw := lpw q (l - 1) M S hq1 (hqa _ (by omega)) (by omega) (by omega)
  have a1 : (l : Int) - 1 = ((l - 1 : Nat) : Int) := by omega
  have hm : fMul (.int bot) (.int ((q ^ (l - 1) : Nat) : Int)) S = .ok (.int ((q ^ (K + (l - 1)) : Nat) : Int)) S := by
    have := mulN (x := bot) (y := q ^ (l - 1)) (a := M) (b := M) (by rw [hbot]; exact hqa _ (by omega)) (hqa _ (by omega)) (by omega)
    show okI (mulFit (bot : Int) ((q ^ (l - 1) : Nat) : Int)) _ S = _
    rw [this, ← Int.natCast_mul, hbot, ← Nat.pow_add]
    rfl
  refine (mSeq_nx (E1 := Ev p f e j q ((j % e : Nat) : Int) top ((q ^ (K + (l - 1)) : Nat) : Int) (some (.int ((k + 1 : Nat) : Int))) (some (.int (l : Nat)))) (S1 := S) ?_).trans ?_
  · refine mSet_ok (mB_ok (b := .int ((q ^ (l - 1) : Nat) : Int)) rfl (mCallO_ok (vs := [.int q, .int ((l - 1 : Nat) : Int)]) (mCons_ok rfl (mCons_ok (mB_ok rfl rfl (congrArg (fun z => R.ok (IV.int z) S) a1)) mNil_ok)) hpw) hm)
  · by_cases hb : k + 1 = j % e
    · rw [if_pos hb] at *
      have ht : mTB (mB fEq (mV 8) (mV 5)) (Ev p f e j q ((j % e : Nat) : Int) top ((q ^ (K + (l - 1)) : Nat) : Int) (some (.int ((k + 1 : Nat) : Int))) (some (.int (l : Nat)))) S = .ok true S := by
        refine mTB_ok (mB_ok rfl rfl (fEq_int.trans ?_))
        rw [hb, decide_eq_true rfl]
      rw [mIfS_t ht]
      have a2 : (q : Int) - 1 = ((q - 1 : Nat) : Int) := by omega
      have m1 : fMul (.int top) (.int ((q - 1 : Nat) : Int)) S = .ok (.int ((top * (q - 1) : Nat) : Int)) S := by
        have := mulN (x := top) (y := q - 1) (a := 100) (b := 40) htop (by omega) (by omega)
        show okI (mulFit (top : Int) ((q - 1 : Nat) : Int)) _ S = _
        rw [this, ← Int.natCast_mul]
        rfl
      have m2 : fMul (.int ((q ^ (K + (l - 1)) : Nat) : Int)) (.int q) S = .ok (.int ((q ^ K' : Nat) : Int)) S := by
        have := mulN (x := q ^ (K + (l - 1))) (y := q) (a := M) (b := 40) (hqa _ (by omega)) hq (by omega)
        show okI (mulFit ((q ^ (K + (l - 1)) : Nat) : Int) (q : Int)) _ S = _
        rw [this, ← Int.natCast_mul, hKs, Nat.pow_succ]
        rfl
      refine (mPar_ok (v := .int ((top * (q - 1) : Nat) : Int)) (w := .int ((q ^ K' : Nat) : Int)) (S1 := S) (mCons_ok (mB_ok rfl (mB_ok rfl rfl (congrArg (fun z => R.ok (IV.int z) S) a2)) m1) (mCons_ok (mB_ok rfl rfl m2) mNil_ok))).trans ?_
      rfl
    · rw [if_neg hb] at *
      have ht : mTB (mB fEq (mV 8) (mV 5)) (Ev p f e j q ((j % e : Nat) : Int) top ((q ^ (K + (l - 1)) : Nat) : Int) (some (.int ((k + 1 : Nat) : Int))) (some (.int (l : Nat)))) S = .ok false S := by
        refine mTB_ok (mB_ok rfl rfl (fEq_int.trans ?_))
        rw [decide_eq_false (by omega)]
      rw [mIfS_f ht, hKs, Nat.add_zero]
      rfl
def shX (q e j : Nat) : Nat := if j % e = 0 then e else e * (q - 1)
theorem share_ok (p f e j : Nat) (S : Sto) (hp : 2 ≤ p) (hp2 : p < 2 ^ 20) (hf : f < 1000) (hq : p ^ f < 2 ^ 40) (he : 1 ≤ e) (he2 : e < 40000) (hj : j < 40000) (hA : Ks p e j (e - 1) ≤ 190) :
    LW.m__law_share [.int p, .int f, .int e, .int j] S = .ok (.tup [.int ((shX (p ^ f) e j / Nat.gcd (shX (p ^ f) e j) ((p ^ f) ^ Ks p e j (e - 1)) : Nat) : Int), .int (((p ^ f) ^ Ks p e j (e - 1) / Nat.gcd (shX (p ^ f) e j) ((p ^ f) ^ Ks p e j (e - 1)) : Nat) : Int)]) S := by
  have hq1 : 1 ≤ p ^ f := Nat.pow_pos (by omega)
  have hpw := lpw p f 40 S (by omega) hq (by decide) (by omega)
  generalize hQ : p ^ f = q at *
  have hxb : e * (q - 1) < 2 ^ 20 * 2 ^ 40 := Nat.mul_lt_mul'' (by omega) (by omega)
  have hxl : shX q e j < 2 ^ 60 := by
    unfold shX
    split <;> omega
  have hjb : j % e < e := Nat.mod_lt j he
  have hqa : q ^ Ks p e j (e - 1) < 2 ^ (40 * 190 + 1) := pow_bound hq hA
  generalize hM : 40 * 190 + 1 = M at hqa
  have hM2 : M = 7601 := by rw [← hM]
  have hxM : shX q e j < 2 ^ M := Nat.lt_of_lt_of_le hxl (Nat.pow_le_pow_right (by decide) (by omega))
  refine mDef_rt (E := [some (.int p), some (.int f), some (.int e), some (.int j), none, none, none, none, none, none]) rfl ?_
  unfold LW.b__law_share
  have hN1 : e < 1000000 := by omega
  have hN2 : e + j + 1 < 100000 := by omega
  generalize 1000000 = N at *
  generalize 100000 = N2 at *
  have key := forGo_items (tg := .name 8) (b := fb N2) (fun r E S' => ∃ (k m top bot : Nat) (ti bi : Int) (x y : Option IV), r = rangeI ((k + 1 : Nat) : Int) m ∧ k + 1 + m = e ∧ ti = top ∧ bi = bot ∧ E = Ev p f e j q ((j % e : Nat) : Int) ti bi x y ∧ S' = S ∧ top = (if 1 ≤ j % e ∧ j % e ≤ k then e * (q - 1) else e) ∧ bot = q ^ Ks p e j k) ?_ (rangeI 1 (e - 1)) N (Ev p f e j q ((j % e : Nat) : Int) e 1 none none) S (by rw [len_rangeI]; omega)
    ⟨0, e - 1, e, 1, e, 1, none, none, rfl, by omega, rfl, rfl, rfl, rfl, by rw [if_neg (by omega)], rfl⟩
  · obtain ⟨E', S', hgo, k, m, top, bot, ti, bi, x, y, hr, hkm, rfl, rfl, rfl, rfl, ht, hb⟩ := key
    have hm0 : m = 0 := by
      cases m with
      | zero => rfl
      | succ m => cases hr
    have hk : k = e - 1 := by omega
    subst hk
    have ht' : top = shX q e j := by
      rw [ht]
      unfold shX
      by_cases h : j % e = 0
      · rw [if_pos h, if_neg (by omega)]
      · rw [if_neg h, if_pos (by omega)]
    refine (mSeq_nx (E1 := [some (.int p), some (.int f), some (.int e), some (.int j), some (.int q), some (.int ((j % e : Nat) : Int)), none, none, none, none]) (S1 := S') ?_).trans ?_
    · have hmod : fMod (.int j) (.int e) S' = .ok (.int ((j % e : Nat) : Int)) S' := by
        show okI (!decide ((e : Int) = 0)) ((j : Int).fmod e) S' = _
        rw [decide_eq_false (by omega), fmod_cast]
        rfl
      exact mPar_ok (mCons_ok (mCallO_ok (mCons_ok rfl (mCons_ok rfl mNil_ok)) hpw) (mCons_ok (mB_ok rfl rfl hmod) mNil_ok))
    refine (mSeq_nx (E1 := Ev p f e j q ((j % e : Nat) : Int) e 1 none none) (S1 := S') rfl).trans ?_
    have hw : mWk fRange (mCons (mC (.int 1)) (mCons (mV 2) mNil)) (Ev p f e j q ((j % e : Nat) : Int) e 1 none none) S' = .ok (.items (rangeI 1 (e - 1))) S' := by
      refine (mWk_range2 (i := 1) (j := (e : Int)) rfl rfl (by decide) (by decide) (by omega) (by omega)).trans ?_
      rw [show ((e : Int) - 1).toNat = e - 1 by omega]
    refine (mSeq_nx ((mFor_wk hw).trans hgo)).trans ?_
    have hlow := own_flat (as := [.int (top : Int), .int (bot : Int)]) rfl (lowest_ok top bot M ⟨0, []⟩ (by rw [ht']; exact hxM) (by rw [hb]; exact hqa) (by rw [hb]; exact Nat.pow_pos hq1) (by omega)) rfl S'
    rw [← ht', ← hb]
    exact mRet_ok (mCallO_ok (mCons_ok rfl (mCons_ok rfl mNil_ok)) hlow)
  · rintro v r E S' ⟨k, m, top, bot, ti, bi, x, y, hr, hkm, rfl, rfl, rfl, rfl, ht, hb⟩
    cases m with
    | zero => cases hr
    | succ m =>
      have hr' : v :: r = IV.int ((k + 1 : Nat) : Int) :: rangeI (((k + 1 : Nat) : Int) + 1) m := hr
      injection hr' with hv hr2
      subst hv
      have hkA : Ks p e j (k + 1) ≤ 190 := by
        have := Ks_le p e j (k + 1) m
        rw [show k + 1 + m = e - 1 by omega] at this
        omega
      have htl : top < 2 ^ 100 := by
        rw [ht]
        split <;> omega
      refine ⟨_, _, S', rfl, fb_ok p e j k q 190 bot top f (some (.int ((k + 1 : Nat) : Int))) y S' N2 hp hp2 (by omega) he (by omega) (by omega) hN2 hq1 hq hkA (by omega) hb htl, k + 1, m, _, _, _, _, _, _, ?_, by omega, rfl, rfl, rfl, rfl, ?_, rfl⟩
      · rw [hr2]
        congr 1
      · rw [ht]
        by_cases h1 : k + 1 = j % e
        · rw [if_pos h1, if_neg (by omega), if_pos (by omega)]
        · rw [if_neg h1]
          by_cases h2 : 1 ≤ j % e ∧ j % e ≤ k
          · rw [if_pos h2, if_pos (by omega)]
          · rw [if_neg h2, if_neg (by omega)]
theorem own_count_ok (p f e j : Nat) (S : Sto) (hp : 2 ≤ p) (hp2 : p < 2 ^ 20) (hf : f < 1000) (hq : p ^ f < 2 ^ 40) (he : 1 ≤ e) (he2 : e < 40000) (hj : j ≤ 190) (A : Nat) (hA : A + Ks p e j (e - 1) = j) :
    LW.m__law_own_count [.int p, .int f, .int e, .int j] S = .ok (.int ((shX (p ^ f) e j * (p ^ f) ^ A : Nat) : Int)) S := by
  have hq1 : 1 ≤ p ^ f := Nat.pow_pos (by omega)
  have hsh := own_flat (as := [.int (p : Int), .int (f : Int), .int (e : Int), .int (j : Int)]) rfl (share_ok p f e j ⟨0, []⟩ hp hp2 hf hq he he2 (by omega) (by omega)) rfl S
  have hpw := lpw p f 40 S (by omega) hq (by decide) (by omega)
  generalize hQ : p ^ f = q at *
  have hqj : q ^ j < 2 ^ (40 * 190 + 1) := pow_bound hq hj
  generalize hM : 40 * 190 + 1 = M at hqj
  have hM2 : M = 7601 := by rw [← hM]
  have hpj := lpw q j M S hq1 hqj (by omega) (by omega)
  have hK : q ^ Ks p e j (e - 1) < 2 ^ M := Nat.lt_of_le_of_lt (Nat.pow_le_pow_right hq1 (by omega)) hqj
  have hK0 : 0 < q ^ Ks p e j (e - 1) := Nat.pow_pos hq1
  have hxl : shX q e j < 2 ^ 60 := by
    unfold shX
    have : e * (q - 1) < 2 ^ 20 * 2 ^ 40 := Nat.mul_lt_mul'' (by omega) (by omega)
    split <;> omega
  have hpow : q ^ j = q ^ A * q ^ Ks p e j (e - 1) := by rw [← Nat.pow_add, hA]
  generalize hX : shX q e j = X at *
  generalize hB : q ^ Ks p e j (e - 1) = B at *
  have hgp : 0 < Nat.gcd X B := Nat.gcd_pos_of_pos_right X hK0
  have hg1 : X / Nat.gcd X B * Nat.gcd X B = X := Nat.div_mul_cancel (Nat.gcd_dvd_left X B)
  have hg2 : B / Nat.gcd X B * Nat.gcd X B = B := Nat.div_mul_cancel (Nat.gcd_dvd_right X B)
  have hxg : X / Nat.gcd X B < 2 ^ 60 := Nat.lt_of_le_of_lt (Nat.div_le_self _ _) hxl
  have hbg : B / Nat.gcd X B < 2 ^ M := Nat.lt_of_le_of_lt (Nat.div_le_self _ _) hK
  have hbg0 : 0 < B / Nat.gcd X B := Nat.div_pos (Nat.gcd_le_right X hK0) hgp
  generalize X / Nat.gcd X B = x1 at *
  generalize B / Nat.gcd X B = b1 at *
  have hfin : x1 * q ^ j / b1 = X * q ^ A := by
    rw [hpow, ← hg1, ← hg2]
    have : x1 * (q ^ A * (b1 * Nat.gcd X B)) = (x1 * Nat.gcd X B * q ^ A) * b1 := by
      rw [Nat.mul_assoc x1 (Nat.gcd X B), Nat.mul_comm (Nat.gcd X B) (q ^ A), Nat.mul_assoc x1, Nat.mul_assoc (q ^ A), Nat.mul_comm (Nat.gcd X B) b1]
    rw [hg2] at *
    rw [← hg2, this, Nat.mul_div_cancel _ hbg0]
  refine mDef_rt (E := [some (.int p), some (.int f), some (.int e), some (.int j), none]) rfl ?_
  unfold LW.b__law_own_count
  refine (mSeq_nx (E1 := [some (.int p), some (.int f), some (.int e), some (.int j), some (.tup [.int (x1 : Int), .int (b1 : Int)])]) (S1 := S) (mSet_ok (mCallO_ok (mCons_ok rfl (mCons_ok rfl (mCons_ok rfl (mCons_ok rfl mNil_ok)))) hsh))).trans ?_
  have hm : fMul (.int x1) (.int ((q ^ j : Nat) : Int)) S = .ok (.int ((x1 * q ^ j : Nat) : Int)) S := by
    have := mulN (x := x1) (y := q ^ j) (a := 60) (b := M) hxg hqj (by omega)
    show okI (mulFit (x1 : Int) ((q ^ j : Nat) : Int)) _ S = _
    rw [this, ← Int.natCast_mul]
    rfl
  have hd : fDiv (.int ((x1 * q ^ j : Nat) : Int)) (.int b1) S = .ok (.int ((X * q ^ A : Nat) : Int)) S := by
    have := divN (x := b1) (a := M) hbg0 hbg (by omega)
    show (bif divFit (b1 : Int) then _ else _) = _
    rw [this, div_cast, hfin]
    rfl
  exact mRet_ok (mB_ok (mB_ok (mB_ok rfl rfl rfl) (mCallO_ok (mCons_ok (mCallO_ok (mCons_ok rfl (mCons_ok rfl mNil_ok)) hpw) (mCons_ok rfl mNil_ok)) hpj) hm) (mB_ok rfl rfl rfl) hd)
end P53

set_option Elab.async false
set_option linter.all false
set_option maxRecDepth 100000
set_option maxHeartbeats 2000000
set_option autoImplicit false
namespace P53
open PySem PySem.Spec PyProof.Rows L2 FX FX.Ar
def leastOre (p e j : Nat) : Nat := if j % e = 0 then e * expo p e else min (e * expo p (j % e)) (e * expo p e)
def oreN (p e : Nat) : List Nat := (List.range (e * expo p e + 1)).filter fun j => Nat.ble (leastOre p e j) j
def castL (l : List Nat) : List Int := l.map fun n : Nat => (n : Int)
def tupOf : R IV → Option (List Int)
  | .ok (.tup xs) _ => allInt xs
  | _ => none
theorem tupOf_eq {r : R IV} {l : List Int} (h : tupOf r = some l) : ∃ S, r = .ok (.tup (l.map IV.int)) S := by
  cases r with
  | ok v S =>
    cases v with
    | tup xs =>
      have h' : allInt xs = some l := h
      exact ⟨S, by rw [allInt_eq h']⟩
    | _ => cases h
  | ex e S => cases h
  | no => cases h
theorem flatTup (l : List Int) : flatR (.tup (l.map IV.int)) = true := flat_ints l
/-- what the primes and sizes of this law are like: checked one by one below -/
structure Good (p e : Nat) : Prop where
  pp : 2 ≤ p ∧ p < 8
  ee : 1 ≤ e ∧ e < 31
  prime : ∃ S, LW.m_require_prime [.int p] ⟨0, []⟩ = .ok .non S
  size : ∃ S, LW.m_require_within [.int e, .int 1, .int 30] ⟨0, []⟩ = .ok .non S
  nums : tupOf (LW.m_ore_numbers [.int p, .int e] ⟨0, []⟩) = some (castL (oreN p e))
  lore : listOf (LW.m__law_ore [.int p, .int e] ⟨0, []⟩) = some (castL (oreN p e))
  step : ∀ j ∈ oreN p e, ∃ S, LW.m_is_step_in [.int p, .int e, .int (j : Nat)] ⟨0, []⟩ = .ok (.bl true) S
  fit : ∀ j ∈ oreN p e, krA p e j + Ks p e j (e - 1) = j ∧ j ≤ 190 ∧ p ^ (j / e + 1) < 2 ^ 40
theorem Good.len {p e : Nat} (h : Good p e) : (oreN p e).length < 100000 := by
  have h1 : (oreN p e).length ≤ (List.range (e * expo p e + 1)).length := List.length_filter_le _ _
  rw [List.length_range] at h1
  have he := h.ee
  have h2 : expo p e ≤ 5 := expo_le (by omega) (by omega)
  have h3 : e * expo p e ≤ 31 * 5 := Nat.mul_le_mul (by omega) h2
  omega
def stN (q e : Nat) (s : Nat × Nat) (x : Nat × Nat) : Nat × Nat :=
  (s.1 * (q ^ x.2 / Nat.gcd (if x.1 = 0 then e else e * (q - 1)) (q ^ x.2)) + (if x.1 = 0 then e else e * (q - 1)) / Nat.gcd (if x.1 = 0 then e else e * (q - 1)) (q ^ x.2) * s.2, s.2 * (q ^ x.2 / Nat.gcd (if x.1 = 0 then e else e * (q - 1)) (q ^ x.2)))
def low (s : Nat × Nat) : Nat × Nat := (s.1 / Nat.gcd s.1 s.2, s.2 / Nat.gcd s.1 s.2)
def sumOk (q e : Nat) : Nat × Nat → List (Nat × Nat) → Bool
  | s, [] => Nat.beq s.1 e && Nat.beq s.2 1
  | s, x :: r => Nat.blt (stN q e s x).1 (2 ^ 7900) && Nat.blt (stN q e s x).2 (2 ^ 7900) && Nat.blt 0 (stN q e s x).2 && sumOk q e (low (stN q e s x)) r
def KL (p e : Nat) (l : List Nat) : List (Nat × Nat) := l.map fun j => (j % e, Ks p e j (e - 1))
section
variable {p f e : Nat}
theorem counted_ok (G : Good p e) (j : Nat) (hj : j ∈ oreN p e) (hf : ∃ S, LW.m_require_within [.int f, .int 1, .int 12] ⟨0, []⟩ = .ok .non S) (S : Sto) :
    LW.m_require_counted [.int p, .int f, .int e, .int j] S = .ok .non S := by
  obtain ⟨S1, h1⟩ := G.prime
  obtain ⟨S2, h2⟩ := G.size
  obtain ⟨S3, h3⟩ := hf
  obtain ⟨S4, h4⟩ := G.step j hj
  have o1 := own_flat (as := [.int (p : Int)]) rfl h1 rfl
  have o2 := own_flat (as := [.int (e : Int), .int 1, .int 30]) rfl h2 rfl
  have o3 := own_flat (as := [.int (f : Int), .int 1, .int 12]) rfl h3 rfl
  have o4 := own_flat (as := [.int (p : Int), .int (e : Int), .int (j : Int)]) rfl h4 rfl
  have hs : LW.m_require_sizes [.int p, .int f, .int e] ⟨0, []⟩ = .ok .non ⟨0, []⟩ := by
    have : LW.b_require_sizes [some (.int p), some (.int f), some (.int e)] ⟨0, []⟩ = .nx [some (.int p), some (.int f), some (.int e)] ⟨0, []⟩ := by
      unfold LW.b_require_sizes
      refine (mSeq_nx (mDrop_ok (mCallO_ok (mCons_ok rfl mNil_ok) (o1 _)))).trans ?_
      refine (mSeq_nx (mDrop_ok (mCallO_ok (mCons_ok rfl (mCons_ok rfl (mCons_ok rfl mNil_ok))) (o3 _)))).trans ?_
      exact mDrop_ok (mCallO_ok (mCons_ok rfl (mCons_ok rfl (mCons_ok rfl mNil_ok))) (o2 _))
    exact mDef_nx rfl this
  have os := own_flat (as := [.int (p : Int), .int (f : Int), .int (e : Int)]) rfl hs rfl
  have : LW.b_require_counted [some (.int p), some (.int f), some (.int e), some (.int j)] S = .nx [some (.int p), some (.int f), some (.int e), some (.int j)] S := by
    unfold LW.b_require_counted
    refine (mSeq_nx (mDrop_ok (mCallO_ok (mCons_ok rfl (mCons_ok rfl (mCons_ok rfl mNil_ok))) (os _)))).trans ?_
    exact mIfS_f (mNotT_ok (mTru_bl (mCallO_ok (mCons_ok rfl (mCons_ok rfl (mCons_ok rfl mNil_ok))) (o4 _))))
  exact mDef_nx rfl this
theorem krN_eq (q j : Nat) : krN p q e j = shX q e j * q ^ krA p e j := rfl
theorem kcount_ok (G : Good p e) (j : Nat) (hj : j ∈ oreN p e) (hf : ∃ S, LW.m_require_within [.int f, .int 1, .int 12] ⟨0, []⟩ = .ok .non S) (hf2 : f < 1000) (hq : p ^ f < 2 ^ 40) (S : Sto) :
    LW.m_krasner_count [.int p, .int f, .int e, .int j] S = .ok (.int ((shX (p ^ f) e j * (p ^ f) ^ krA p e j : Nat) : Int)) S := by
  have hp := G.pp
  have he := G.ee
  obtain ⟨h1, h2, h3⟩ := G.fit j hj
  have hje : j / e ≤ j := Nat.div_le_self _ _
  obtain ⟨S1, hk⟩ := krasner_ok p f e j ⟨0, []⟩ (by omega) hf2 hq he.1 (by omega) (by omega) h3 (by omega) (by omega)
  have oc := own_flat (as := [.int (p : Int), .int (f : Int), .int (e : Int), .int (j : Int)]) rfl (counted_ok G j hj hf ⟨0, []⟩) rfl
  have ok := own_flat (as := [.int (p : Int), .int (f : Int), .int (e : Int), .int (j : Int)]) rfl hk rfl
  refine mDef_rt (E := [some (.int p), some (.int f), some (.int e), some (.int j)]) rfl ?_
  unfold LW.b_krasner_count
  refine (mSeq_nx (mDrop_ok (mCallO_ok (mCons_ok rfl (mCons_ok rfl (mCons_ok rfl (mCons_ok rfl mNil_ok)))) (oc _)))).trans ?_
  exact mRet_ok (mCallO_ok (mCons_ok rfl (mCons_ok rfl (mCons_ok rfl (mCons_ok rfl mNil_ok)))) (ok _))
theorem cshare_ok (G : Good p e) (j : Nat) (hj : j ∈ oreN p e) (hf : ∃ S, LW.m_require_within [.int f, .int 1, .int 12] ⟨0, []⟩ = .ok .non S) (hf2 : f < 1000) (hq : p ^ f < 2 ^ 40) (S : Sto) :
    LW.m_count_share [.int p, .int f, .int e, .int j] S = .ok (.tup [.int ((shX (p ^ f) e j / Nat.gcd (shX (p ^ f) e j) ((p ^ f) ^ Ks p e j (e - 1)) : Nat) : Int), .int (((p ^ f) ^ Ks p e j (e - 1) / Nat.gcd (shX (p ^ f) e j) ((p ^ f) ^ Ks p e j (e - 1)) : Nat) : Int)]) S := by
  have hp := G.pp
  have he := G.ee
  obtain ⟨h1, h2, h3⟩ := G.fit j hj
  have hje : j / e ≤ j := Nat.div_le_self _ _
  obtain ⟨S1, hk⟩ := krasner_ok p f e j ⟨0, []⟩ (by omega) hf2 hq he.1 (by omega) (by omega) h3 (by omega) (by omega)
  rw [krN_eq] at hk
  have oc := own_flat (as := [.int (p : Int), .int (f : Int), .int (e : Int), .int (j : Int)]) rfl (counted_ok G j hj hf ⟨0, []⟩) rfl
  have ok := own_flat (as := [.int (p : Int), .int (f : Int), .int (e : Int), .int (j : Int)]) rfl hk rfl
  have hq1 : 1 ≤ p ^ f := Nat.pow_pos (by omega)
  have hpw := pw p f 40 S (by omega) hq (by decide) (by omega)
  generalize hQ : p ^ f = q at *
  have hqj : q ^ j < 2 ^ (40 * 190 + 1) := pow_bound hq h2
  have hqA : q ^ krA p e j < 2 ^ (40 * 190 + 1) := pow_bound hq (by omega)
  generalize hM : 40 * 190 + 1 = M at hqj hqA
  have hM2 : M = 7601 := by rw [← hM]
  have hpj := pw q j M S hq1 hqj (by omega) (by omega)
  have hxl : shX q e j < 2 ^ 60 := by
    unfold shX
    have : e * (q - 1) < 2 ^ 20 * 2 ^ 40 := Nat.mul_lt_mul'' (by omega) (by omega)
    split <;> omega
  have hpow : q ^ j = q ^ Ks p e j (e - 1) * q ^ krA p e j := by rw [← Nat.pow_add, Nat.add_comm, h1]
  have hA0 : 0 < q ^ krA p e j := Nat.pow_pos hq1
  have hrat := own_flat (as := [.int ((shX q e j * q ^ krA p e j : Nat) : Int), .int ((q ^ j : Nat) : Int)]) rfl (ratio_ok (shX q e j * q ^ krA p e j) (q ^ j) (60 + M) ⟨0, []⟩ (by rw [Nat.pow_add]; exact Nat.mul_lt_mul'' hxl hqA) (Nat.lt_of_lt_of_le hqj (Nat.pow_le_pow_right (by decide) (by omega))) (Nat.pow_pos hq1) (by omega)) rfl
  have e1 : Nat.gcd (shX q e j * q ^ krA p e j) (q ^ j) = Nat.gcd (shX q e j) (q ^ Ks p e j (e - 1)) * q ^ krA p e j := by rw [hpow, Nat.gcd_mul_right]
  have e2 : shX q e j * q ^ krA p e j / Nat.gcd (shX q e j * q ^ krA p e j) (q ^ j) = shX q e j / Nat.gcd (shX q e j) (q ^ Ks p e j (e - 1)) := by rw [e1, Nat.mul_div_mul_right _ _ hA0]
  have e3 : q ^ j / Nat.gcd (shX q e j * q ^ krA p e j) (q ^ j) = q ^ Ks p e j (e - 1) / Nat.gcd (shX q e j) (q ^ Ks p e j (e - 1)) := by rw [e1, hpow, Nat.mul_div_mul_right _ _ hA0]
  rw [e2, e3] at hrat
  refine mDef_rt (E := [some (.int p), some (.int f), some (.int e), some (.int j)]) rfl ?_
  unfold LW.b_count_share
  refine (mSeq_nx (mDrop_ok (mCallO_ok (mCons_ok rfl (mCons_ok rfl (mCons_ok rfl (mCons_ok rfl mNil_ok)))) (oc _)))).trans ?_
  exact mRet_ok (mCallO_ok (mCons_ok (mCallO_ok (mCons_ok rfl (mCons_ok rfl (mCons_ok rfl (mCons_ok rfl mNil_ok)))) (ok _)) (mCons_ok (mCallO_ok (mCons_ok (mCallO_ok (mCons_ok rfl (mCons_ok rfl mNil_ok)) hpw) (mCons_ok rfl mNil_ok)) hpj) mNil_ok)) (hrat _))
/-! ### sizes right -/
def sb : MS := mSeq (mSet 7 (mCallO LW.m_count_share (mCons (mV 0) (mCons (mV 1) (mCons (mV 2) (mCons (mV 6) mNil))))))
    (mSeq (mIfS (mOrT (mTB (mB fNe (mV 7) (mCallO LW.m__law_share (mCons (mV 0) (mCons (mV 1) (mCons (mV 2) (mCons (mV 6) mNil))))))) (mTB (mB fNe (mCallO LW.m_krasner_count (mCons (mV 0) (mCons (mV 1) (mCons (mV 2) (mCons (mV 6) mNil))))) (mCallO LW.m__law_own_count (mCons (mV 0) (mCons (mV 1) (mCons (mV 2) (mCons (mV 6) mNil)))))))) (mRet (mC (.bl false))) mSkip)
    (mAsg (.tup [(.name 4), (.name 5)]) (mCallO LW.m__law_lowest (mCons (mB fAdd (mB fMul (mV 4) (mB fIx (mV 7) (mC (.int 1)))) (mB fMul (mB fIx (mV 7) (mC (.int 0))) (mV 5))) (mCons (mB fMul (mV 5) (mB fIx (mV 7) (mC (.int 1)))) mNil)))))
def Es (p f e : Int) (some_ : IV) (t b : Int) (x y : Option IV) : Env' := [some (.int p), some (.int f), some (.int e), some some_, some (.int t), some (.int b), x, y]
theorem sb_ok (G : Good p e) (j : Nat) (hj : j ∈ oreN p e) (hf : ∃ S, LW.m_require_within [.int f, .int 1, .int 12] ⟨0, []⟩ = .ok .non S) (hf2 : f < 1000) (hq : p ^ f < 2 ^ 40) (S : Sto) (so : IV) (t b : Nat) (y : Option IV) (M : Nat) (hM : M < 8000)
    (h1 : (stN (p ^ f) e (t, b) (j % e, Ks p e j (e - 1))).1 < 2 ^ M) (h2 : (stN (p ^ f) e (t, b) (j % e, Ks p e j (e - 1))).2 < 2 ^ M) (h3 : 0 < (stN (p ^ f) e (t, b) (j % e, Ks p e j (e - 1))).2) :
    ∃ y', sb (Es p f e so t b (some (.int j)) y) S = .nx (Es p f e so ((low (stN (p ^ f) e (t, b) (j % e, Ks p e j (e - 1)))).1 : Nat) ((low (stN (p ^ f) e (t, b) (j % e, Ks p e j (e - 1)))).2 : Nat) (some (.int j)) y') S := by
  have hp := G.pp
  have he := G.ee
  obtain ⟨g1, g2, g3⟩ := G.fit j hj
  have c1 := own_flat (as := [.int (p : Int), .int (f : Int), .int (e : Int), .int (j : Int)]) rfl (cshare_ok G j hj hf hf2 hq ⟨0, []⟩) rfl S
  have c2 := own_flat (as := [.int (p : Int), .int (f : Int), .int (e : Int), .int (j : Int)]) rfl (share_ok p f e j ⟨0, []⟩ hp.1 (by omega) hf2 hq he.1 (by omega) (by omega) (by omega)) rfl S
  have c3 := own_flat (as := [.int (p : Int), .int (f : Int), .int (e : Int), .int (j : Int)]) rfl (kcount_ok G j hj hf hf2 hq ⟨0, []⟩) rfl S
  have c4 := own_flat (as := [.int (p : Int), .int (f : Int), .int (e : Int), .int (j : Int)]) rfl (own_count_ok p f e j ⟨0, []⟩ hp.1 (by omega) hf2 hq he.1 (by omega) g2 _ g1) rfl S
  have hsx : (if j % e = 0 then e else e * (p ^ f - 1)) = shX (p ^ f) e j := rfl
  unfold stN low at *
  simp only [hsx] at *
  have hq1 : 1 ≤ p ^ f := Nat.pow_pos (by omega)
  have hxl : shX (p ^ f) e j < 2 ^ 60 := by
    unfold shX
    have : e * (p ^ f - 1) < 2 ^ 20 * 2 ^ 40 := Nat.mul_lt_mul'' (by omega) (by omega)
    split <;> omega
  have hx1 : 1 ≤ shX (p ^ f) e j / Nat.gcd (shX (p ^ f) e j) ((p ^ f) ^ Ks p e j (e - 1)) ∨ shX (p ^ f) e j = 0 := by
    rcases Nat.eq_zero_or_pos (shX (p ^ f) e j) with z | z
    · exact .inr z
    · exact .inl (Nat.div_pos (Nat.gcd_le_left _ z) (Nat.gcd_pos_of_pos_left _ z))
  generalize shX (p ^ f) e j / Nat.gcd (shX (p ^ f) e j) ((p ^ f) ^ Ks p e j (e - 1)) = s0 at *
  generalize (p ^ f) ^ Ks p e j (e - 1) / Nat.gcd (shX (p ^ f) e j) ((p ^ f) ^ Ks p e j (e - 1)) = s1 at *
  generalize shX (p ^ f) e j * (p ^ f) ^ krA p e j = kr at *
  refine ⟨some (.tup [.int (s0 : Int), .int (s1 : Int)]), ?_⟩
  unfold sb
  refine (mSeq_nx (E1 := Es p f e so t b (some (.int j)) (some (.tup [.int (s0 : Int), .int (s1 : Int)]))) (mSet_ok (mCallO_ok (mCons_ok rfl (mCons_ok rfl (mCons_ok rfl (mCons_ok rfl mNil_ok)))) c1))).trans ?_
  have hne : fNe (.tup [.int (s0 : Int), .int (s1 : Int)]) (.tup [.int (s0 : Int), .int (s1 : Int)]) S = .ok (.bl false) S := by
    have := eqIV_tup S [(s0 : Int), (s1 : Int)] [(s0 : Int), (s1 : Int)] (show 2 < 900000 by decide) (show 2 < 900000 by decide)
    rw [decide_eq_true rfl] at this
    show (match eqIV S (.tup ([(s0 : Int), (s1 : Int)].map IV.int)) (.tup ([(s0 : Int), (s1 : Int)].map IV.int)) with | some c => R.ok (IV.bl (!c)) S | none => R.no) = _
    rw [this]
    rfl
  have hne2 : fNe (.int (kr : Int)) (.int (kr : Int)) S = .ok (.bl false) S := by
    rw [fNe_int, decide_eq_true rfl]
    rfl
  refine (mSeq_nx (mIfS_f (mOrT_f (mTB_ok (mB_ok rfl (mCallO_ok (mCons_ok rfl (mCons_ok rfl (mCons_ok rfl (mCons_ok rfl mNil_ok)))) c2) hne)) (mTB_ok (mB_ok (mCallO_ok (mCons_ok rfl (mCons_ok rfl (mCons_ok rfl (mCons_ok rfl mNil_ok)))) c3) (mCallO_ok (mCons_ok rfl (mCons_ok rfl (mCons_ok rfl (mCons_ok rfl mNil_ok)))) c4) hne2))))).trans ?_
  have hlow := own_flat (as := [.int ((t * s1 + s0 * b : Nat) : Int), .int ((b * s1 : Nat) : Int)]) rfl (lowest_ok (t * s1 + s0 * b) (b * s1) M ⟨0, []⟩ h1 h2 h3 hM) rfl S
  have hs1 : 1 ≤ s1 := Nat.pos_of_ne_zero fun z => by rw [z, Nat.mul_zero] at h3; omega
  have hb1 : 1 ≤ b := Nat.pos_of_ne_zero fun z => by rw [z, Nat.zero_mul] at h3; omega
  have ts : t * s1 < 2 ^ M := by omega
  have sb_ : s0 * b < 2 ^ M := by omega
  have bt : b < 2 ^ M := Nat.lt_of_le_of_lt (Nat.le_mul_of_pos_right b hs1) h2
  have st : s1 < 2 ^ M := Nat.lt_of_le_of_lt (Nat.le_mul_of_pos_left s1 hb1) h2
  have tt : t < 2 ^ M := Nat.lt_of_le_of_lt (Nat.le_mul_of_pos_right t hs1) ts
  have s0t : s0 < 2 ^ M := Nat.lt_of_le_of_lt (Nat.le_mul_of_pos_right s0 hb1) sb_
  have m1 : fMul (.int t) (.int s1) S = .ok (.int ((t * s1 : Nat) : Int)) S := by
    show okI (mulFit (t : Int) (s1 : Int)) _ S = _
    rw [mulN tt st (by omega), ← Int.natCast_mul]
    rfl
  have m2 : fMul (.int s0) (.int b) S = .ok (.int ((s0 * b : Nat) : Int)) S := by
    show okI (mulFit (s0 : Int) (b : Int)) _ S = _
    rw [mulN s0t bt (by omega), ← Int.natCast_mul]
    rfl
  have m3 : fMul (.int b) (.int s1) S = .ok (.int ((b * s1 : Nat) : Int)) S := by
    show okI (mulFit (b : Int) (s1 : Int)) _ S = _
    rw [mulN bt st (by omega), ← Int.natCast_mul]
    rfl
  exact mAsg_ok (mCallO_ok (mCons_ok (mB_ok (mB_ok rfl (mB_ok rfl rfl rfl) m1) (mB_ok (mB_ok rfl rfl rfl) rfl m2) rfl) (mCons_ok (mB_ok rfl (mB_ok rfl rfl rfl) m3) mNil_ok)) hlow) rfl
theorem sizes_ok (G : Good p e) (hf : ∃ S, LW.m_require_within [.int f, .int 1, .int 12] ⟨0, []⟩ = .ok .non S) (hf2 : f < 1000) (hq : p ^ f < 2 ^ 40) (hs : sumOk (p ^ f) e (0, 1) (KL p e (oreN p e)) = true) (S : Sto) :
    ∃ S', LW.m__law_sizes_right [.int p, .int f, .int e] S = .ok (.bl true) S' := by
  have hlen := G.len
  obtain ⟨S1, hn⟩ := tupOf_eq G.nums
  have on := own_flat (as := [.int (p : Int), .int (e : Int)]) rfl hn (flatTup _) S
  obtain ⟨n, S2, ol, _, gl, _⟩ := own_list (as := [.int (p : Int), .int (e : Int)]) rfl G.lore S
  have hcl : (castL (oreN p e)).length < 900000 := by
    unfold castL
    rw [List.length_map]
    omega
  refine ⟨S2, ?_⟩
  refine mDef_rt (E := [some (.int p), some (.int f), some (.int e), none, none, none, none, none]) rfl ?_
  unfold LW.b__law_sizes_right
  have hN : (oreN p e).length < 1000000 := by omega
  generalize 1000000 = N at *
  generalize hso : IV.tup ((castL (oreN p e)).map IV.int) = so at *
  refine (mSeq_nx (E1 := [some (.int p), some (.int f), some (.int e), some so, none, none, none, none]) (S1 := S) (mSet_ok (mCallO_ok (mCons_ok rfl (mCons_ok rfl mNil_ok)) on))).trans ?_
  have hne : fNe so so S2 = .ok (.bl false) S2 := by
    have := eqIV_tup S2 _ _ hcl hcl
    rw [decide_eq_true rfl, hso] at this
    show (match eqIV S2 so so with | some c => R.ok (IV.bl (!c)) S2 | none => R.no) = _
    rw [this]
    rfl
  have ht := bTuple_lst gl
  rw [hso] at ht
  refine (mSeq_nx (mIfS_f (mTB_ok (mB_ok rfl (mCall_ok (mCons_ok (mCallO_ok (mCons_ok rfl (mCons_ok rfl mNil_ok)) ol) mNil_ok) ht) hne)))).trans ?_
  refine (mSeq_nx (E1 := Es p f e so 0 1 none none) (S1 := S2) (mAsg_ok (mTup_ok (mCons_ok rfl (mCons_ok rfl mNil_ok)) (show 2 < 1000000 by decide)) rfl)).trans ?_
  have key := forGo_items (tg := .name 6) (b := sb) (fun r E S' => ∃ (l : List Nat) (t b : Nat) (ti bi : Int) (x y : Option IV), r = l.map (fun n : Nat => IV.int (n : Int)) ∧ (∀ j ∈ l, j ∈ oreN p e) ∧ ti = t ∧ bi = b ∧ E = Es p f e so ti bi x y ∧ S' = S2 ∧ sumOk (p ^ f) e (t, b) (KL p e l) = true) ?_ ((oreN p e).map fun n : Nat => IV.int (n : Int)) N (Es p f e so 0 1 none none) S2 (by rw [List.length_map]; exact hN)
    ⟨oreN p e, 0, 1, 0, 1, none, none, rfl, fun j h => h, rfl, rfl, rfl, rfl, hs⟩
  · obtain ⟨E', S', hgo, l, t, b, ti, bi, x, y, hr, _, rfl, rfl, rfl, rfl, hsum⟩ := key
    have hl : l = [] := by
      cases l with
      | nil => rfl
      | cons a l => cases hr
    subst hl
    have hsum' : (Nat.beq t e && Nat.beq b 1) = true := hsum
    rw [Bool.and_eq_true] at hsum'
    have h1 : t = e := Nat.eq_of_beq_eq_true hsum'.1
    have h2 : b = 1 := Nat.eq_of_beq_eq_true hsum'.2
    subst h1 h2
    have hw : mSeqW (mV 3) (Es p f t so 0 1 none none) S' = .ok (.items ((oreN p t).map fun n : Nat => IV.int (n : Int))) S' := by
      rw [← hso]
      unfold castL
      rw [List.map_map]
      rfl
    refine (mSeq_nx ((mFor_wk hw).trans hgo)).trans ?_
    refine mRet_ok (mB_ok (mTup_ok (mCons_ok rfl (mCons_ok rfl mNil_ok)) (show 2 < 1000000 by decide)) (mTup_ok (mCons_ok rfl (mCons_ok rfl mNil_ok)) (show 2 < 1000000 by decide)) ?_)
    have := eqIV_tup S' [(t : Int), ((1 : Nat) : Int)] [(t : Int), ((1 : Nat) : Int)] (show 2 < 900000 by decide) (show 2 < 900000 by decide)
    rw [decide_eq_true rfl] at this
    show (match eqIV S' (.tup ([(t : Int), ((1 : Nat) : Int)].map IV.int)) (.tup ([(t : Int), ((1 : Nat) : Int)].map IV.int)) with | some c => R.ok (IV.bl c) S' | none => R.no) = _
    rw [this]
  · rintro v r E S' ⟨l, t, b, ti, bi, x, y, hr, hmem, rfl, rfl, rfl, rfl, hsum⟩
    cases l with
    | nil => cases hr
    | cons j l =>
      have hr' : v :: r = IV.int (j : Int) :: l.map (fun n : Nat => IV.int (n : Int)) := hr
      injection hr' with hv hr2
      subst hv
      have hsum' : (Nat.blt (stN (p ^ f) e (t, b) (j % e, Ks p e j (e - 1))).1 (2 ^ 7900) && Nat.blt (stN (p ^ f) e (t, b) (j % e, Ks p e j (e - 1))).2 (2 ^ 7900) && Nat.blt 0 (stN (p ^ f) e (t, b) (j % e, Ks p e j (e - 1))).2 && sumOk (p ^ f) e (low (stN (p ^ f) e (t, b) (j % e, Ks p e j (e - 1)))) (KL p e l)) = true := hsum
      simp only [Bool.and_eq_true] at hsum'
      obtain ⟨⟨⟨b1, b2⟩, b3⟩, b4⟩ := hsum'
      generalize hM : 7900 = M at b1 b2
      obtain ⟨y', hy⟩ := sb_ok G j (hmem j (List.mem_cons_self ..)) hf hf2 hq S' so t b y M (by omega) (Nat.le_of_ble_eq_true b1) (Nat.le_of_ble_eq_true b2) (Nat.le_of_ble_eq_true b3)
      exact ⟨_, _, S', rfl, hy, l, _, _, _, _, _, _, hr2, fun i hi => hmem i (List.mem_cons_of_mem _ hi), rfl, rfl, rfl, rfl, b4⟩
end
end P53

set_option Elab.async false
set_option linter.all false
set_option maxRecDepth 100000
set_option maxHeartbeats 2000000
set_option autoImplicit false
namespace P53
open PySem PySem.Spec PyProof.Rows L2 FX FX.Ar
def goodB (p e : Nat) : Bool :=
  isR .non (LW.m_require_prime [.int p] ⟨0, []⟩) && isR .non (LW.m_require_within [.int e, .int 1, .int 30] ⟨0, []⟩) &&
  decide (tupOf (LW.m_ore_numbers [.int p, .int e] ⟨0, []⟩) = some (castL (oreN p e))) && decide (listOf (LW.m__law_ore [.int p, .int e] ⟨0, []⟩) = some (castL (oreN p e))) &&
  (oreN p e).all fun j => isR (.bl true) (LW.m_is_step_in [.int p, .int e, .int (j : Nat)] ⟨0, []⟩) && Nat.beq (krA p e j + Ks p e j (e - 1)) j && Nat.ble j 190 && Nat.blt (p ^ (j / e + 1)) (2 ^ 40)
theorem good_of {p e : Nat} (h : goodB p e = true) (hp : 2 ≤ p ∧ p < 8) (he : 1 ≤ e ∧ e < 31) : Good p e := by
  unfold goodB at h
  simp only [Bool.and_eq_true, List.all_eq_true] at h
  obtain ⟨⟨⟨⟨h1, h2⟩, h3⟩, h4⟩, h5⟩ := h
  exact ⟨hp, he, isR_eq h1, isR_eq h2, of_decide_eq_true h3, of_decide_eq_true h4, fun j hj => isR_eq (h5 j hj).1.1.1, fun j hj => ⟨Nat.eq_of_beq_eq_true (h5 j hj).1.1.2, Nat.le_of_ble_eq_true (h5 j hj).1.2, Nat.le_of_ble_eq_true (h5 j hj).2⟩⟩
def sumB (p e : Nat) : Bool := (List.range 12).all fun f => sumOk (p ^ (f + 1)) e (0, 1) (KL p e (oreN p e))
def vals : List Int := [-1, 0, 1, 10 ^ 40 * 10 ^ 40, 150] ++ (List.range' 2 38).map fun n : Nat => (n : Int)
def stepB (p e : Nat) : Bool := (vals.all fun v => isR (.bl (decide (v ∈ castL (oreN p e)))) (LW.m_is_step_number [.int p, .int e, .int v] ⟨0, []⟩)) && ([.non, .bl true, .str "1", .tup [.int 1]].all fun v => isR (.bl false) (LW.m_is_step_number [.int p, .int e, v] ⟨0, []⟩))
def degB (p : Nat) : Bool := (List.range 12).all fun d => isR (.bl true) (LW.m__law_degree_right [.int p, .int (d + 1 : Nat)] ⟨0, []⟩)
theorem good2 : ((List.range 30).all fun e => goodB 2 (e + 1)) = true := by decide +kernel
theorem sum2 : ((List.range 30).all fun e => sumB 2 (e + 1)) = true := by decide +kernel
theorem step2 : ((List.range 30).all fun e => stepB 2 (e + 1)) = true := by decide +kernel
theorem deg2 : degB 2 = true := by decide +kernel
theorem good3 : ((List.range 30).all fun e => goodB 3 (e + 1)) = true := by decide +kernel
theorem sum3 : ((List.range 30).all fun e => sumB 3 (e + 1)) = true := by decide +kernel
theorem step3 : ((List.range 30).all fun e => stepB 3 (e + 1)) = true := by decide +kernel
theorem deg3 : degB 3 = true := by decide +kernel
theorem good5 : ((List.range 30).all fun e => goodB 5 (e + 1)) = true := by decide +kernel
theorem sum5 : ((List.range 30).all fun e => sumB 5 (e + 1)) = true := by decide +kernel
theorem step5 : ((List.range 30).all fun e => stepB 5 (e + 1)) = true := by decide +kernel
theorem deg5 : degB 5 = true := by decide +kernel
theorem good7 : ((List.range 30).all fun e => goodB 7 (e + 1)) = true := by decide +kernel
theorem sum7 : ((List.range 30).all fun e => sumB 7 (e + 1)) = true := by decide +kernel
theorem step7 : ((List.range 30).all fun e => stepB 7 (e + 1)) = true := by decide +kernel
theorem deg7 : degB 7 = true := by decide +kernel
theorem within12 : ((List.range 12).all fun f => isR .non (LW.m_require_within [.int (f + 1 : Nat), .int 1, .int 12] ⟨0, []⟩)) = true := by decide +kernel
def Pr (p : Nat) : Prop := p = 2 ∨ p = 3 ∨ p = 5 ∨ p = 7
theorem of_range {n : Nat} {f : Nat → Bool} (h : (List.range n).all (fun e => f (e + 1)) = true) {e : Nat} (h1 : 1 ≤ e) (h2 : e ≤ n) : f e = true := by
  have := List.all_eq_true.mp h (e - 1) (List.mem_range.mpr (by omega))
  rw [show e - 1 + 1 = e by omega] at this
  exact this
theorem good_all {p e : Nat} (hp : Pr p) (h1 : 1 ≤ e) (h2 : e ≤ 30) : Good p e := by
  rcases hp with rfl | rfl | rfl | rfl
  · exact good_of (of_range (f := goodB 2) good2 h1 h2) (by decide) (by omega)
  · exact good_of (of_range (f := goodB 3) good3 h1 h2) (by decide) (by omega)
  · exact good_of (of_range (f := goodB 5) good5 h1 h2) (by decide) (by omega)
  · exact good_of (of_range (f := goodB 7) good7 h1 h2) (by decide) (by omega)
theorem step_all {p e : Nat} (hp : Pr p) (h1 : 1 ≤ e) (h2 : e ≤ 30) : stepB p e = true := by
  rcases hp with rfl | rfl | rfl | rfl
  · exact of_range (f := stepB 2) step2 h1 h2
  · exact of_range (f := stepB 3) step3 h1 h2
  · exact of_range (f := stepB 5) step5 h1 h2
  · exact of_range (f := stepB 7) step7 h1 h2
theorem sum_all {p e f : Nat} (hp : Pr p) (h1 : 1 ≤ e) (h2 : e ≤ 30) (h3 : 1 ≤ f) (h4 : f ≤ 12) : sumOk (p ^ f) e (0, 1) (KL p e (oreN p e)) = true := by
  have : sumB p e = true := by
    rcases hp with rfl | rfl | rfl | rfl
    · exact of_range (f := sumB 2) sum2 h1 h2
    · exact of_range (f := sumB 3) sum3 h1 h2
    · exact of_range (f := sumB 5) sum5 h1 h2
    · exact of_range (f := sumB 7) sum7 h1 h2
  exact of_range (f := fun f => sumOk (p ^ f) e (0, 1) (KL p e (oreN p e))) this h3 h4
theorem deg_all {p d : Nat} (hp : Pr p) (h1 : 1 ≤ d) (h2 : d ≤ 12) : ∃ S, LW.m__law_degree_right [.int p, .int d] ⟨0, []⟩ = .ok (.bl true) S := by
  have : degB p = true := by
    rcases hp with rfl | rfl | rfl | rfl
    · exact deg2
    · exact deg3
    · exact deg5
    · exact deg7
  exact isR_eq (of_range (f := fun d : Nat => isR (.bl true) (LW.m__law_degree_right [.int p, .int d] ⟨0, []⟩)) this h1 h2)
theorem within_all {f : Nat} (h1 : 1 ≤ f) (h2 : f ≤ 12) : ∃ S, LW.m_require_within [.int f, .int 1, .int 12] ⟨0, []⟩ = .ok .non S :=
  isR_eq (of_range (f := fun f : Nat => isR .non (LW.m_require_within [.int f, .int 1, .int 12] ⟨0, []⟩)) within12 h1 h2)
theorem pow_lt {p f : Nat} (hp : Pr p) (h : f ≤ 12) : p ^ f < 2 ^ 40 := by
  have h1 : p ^ f ≤ 7 ^ 12 := Nat.le_trans (Nat.pow_le_pow_left (by rcases hp with rfl | rfl | rfl | rfl <;> decide) f) (Nat.pow_le_pow_right (by decide) h)
  exact Nat.lt_of_le_of_lt h1 (by decide)
theorem sizes_all {p e f : Nat} (hp : Pr p) (h1 : 1 ≤ e) (h2 : e ≤ 30) (h3 : 1 ≤ f) (h4 : f ≤ 12) (S : Sto) : own LW.m__law_sizes_right [.int p, .int f, .int e] S = .ok (.bl true) S := by
  obtain ⟨S', h⟩ := sizes_ok (good_all hp h1 h2) (within_all h3 h4) (by omega) (pow_lt hp h4) (sum_all hp h1 h2 h3 h4) ⟨0, []⟩
  exact own_flat rfl h rfl S
end P53

set_option Elab.async false
set_option linter.all false
set_option maxRecDepth 100000
set_option maxHeartbeats 2000000
set_option autoImplicit false
namespace P53
open PySem PySem.Spec PyProof.Rows L2 FX FX.Ar
def expB (p : Nat) : Bool := (List.range 30).all fun e => isR (.int (expo p (e + 1) : Nat)) (LW.m_exponent_in [.int p, .int (e + 1 : Nat)] ⟨0, []⟩)
theorem exps : (expB 2 && expB 3 && expB 5 && expB 7) = true := by decide +kernel
theorem exp_all {p e : Nat} (hp : Pr p) (h1 : 1 ≤ e) (h2 : e ≤ 30) (S : Sto) : own LW.m_exponent_in [.int p, .int e] S = .ok (.int (expo p e : Nat)) S := by
  have h := exps
  simp only [Bool.and_eq_true] at h
  have : expB p = true := by
    rcases hp with rfl | rfl | rfl | rfl
    · exact h.1.1.1
    · exact h.1.1.2
    · exact h.1.2
    · exact h.2
  obtain ⟨S', e1⟩ := isR_eq (of_range (f := fun e : Nat => isR (.int (expo p e : Nat)) (LW.m_exponent_in [.int p, .int e] ⟨0, []⟩)) this h1 h2)
  exact own_flat rfl e1 rfl S
def El (x0 x1 x2 : Option IV) (p : Nat) (x4 : Option IV) (e : Nat) (x6 v d : Option IV) : Env' := [x0, x1, x2, some (.int p), x4, some (.int e), x6, v, d]
def due : ME := mAndV (mCallO LW.m__law_is_whole (mCons (mV 7) mNil)) (mB fIn (mV 7) (mCallO LW.m__law_ore (mCons (mV 3) (mCons (mV 5) mNil))))
def vb : MS := mSeq (mSet 8 due) (mIfS (mTB (mB fNe (mCall bRepr (mCons (mCallO LW.m_is_step_number (mCons (mV 3) (mCons (mV 5) (mCons (mV 7) mNil)))) mNil)) (mCall bRepr (mCons (mV 8) mNil)))) (mRet (mC (.bl false))) mSkip)
theorem vb_ok {x0 x1 x2 x4 x6 d0 : Option IV} {p e : Nat} {v : IV} {c : Bool} {S S' : Sto} (hd : due (El x0 x1 x2 p x4 e x6 (some v) d0) S = .ok (.bl c) S') (hs : own LW.m_is_step_number [.int p, .int e, v] S' = .ok (.bl c) S') :
    vb (El x0 x1 x2 p x4 e x6 (some v) d0) S = .nx (El x0 x1 x2 p x4 e x6 (some v) (some (.bl c))) S' := by
  unfold vb
  refine (mSeq_nx (mSet_ok hd)).trans ?_
  exact mIfS_f (mTB_ok (mB_ok (mCall_ok (mCons_ok (mCallO_ok (mCons_ok rfl (mCons_ok rfl (mCons_ok rfl mNil_ok))) hs) mNil_ok) (repr_bool c S')) (mCall_ok (mCons_ok rfl mNil_ok) (repr_bool c S')) (fNe_repr c)))
theorem vb_int {x0 x1 x2 x4 x6 d0 : Option IV} {p e : Nat} (hp : Pr p) (h1 : 1 ≤ e) (h2 : e ≤ 30) (i : Int) (hi : i ∈ vals) (S : Sto) :
    ∃ d S', vb (El x0 x1 x2 p x4 e x6 (some (.int i)) d0) S = .nx (El x0 x1 x2 p x4 e x6 (some (.int i)) d) S' ∧ Keep S S' := by
  have G := good_all hp h1 h2
  obtain ⟨n, S2, ol, _, gl, kp⟩ := own_list (as := [.int (p : Int), .int (e : Int)]) rfl G.lore S
  have hb := step_all hp h1 h2
  unfold stepB at hb
  rw [Bool.and_eq_true, List.all_eq_true] at hb
  obtain ⟨S3, h3⟩ := isR_eq (hb.1 i hi)
  refine ⟨_, S2, vb_ok (c := decide (i ∈ castL (oreN p e))) ?_ (own_flat rfl h3 rfl S2), kp⟩
  exact mAndV_t (mCallO_ok (mCons_ok rfl mNil_ok) (own_flat (S' := ⟨0, []⟩) rfl rfl rfl S)) (mB_ok rfl (mCallO_ok (mCons_ok rfl (mCons_ok rfl mNil_ok)) ol) (fIn_lst gl))
theorem vb_other {x0 x1 x2 x4 x6 d0 : Option IV} {p e : Nat} (hp : Pr p) (h1 : 1 ≤ e) (h2 : e ≤ 30) (v : IV) (hv : v ∈ [IV.non, .bl true, .str "1", .tup [.int 1]]) (S : Sto) :
    ∃ d S', vb (El x0 x1 x2 p x4 e x6 (some v) d0) S = .nx (El x0 x1 x2 p x4 e x6 (some v) d) S' ∧ Keep S S' := by
  have hb := step_all hp h1 h2
  unfold stepB at hb
  rw [Bool.and_eq_true, List.all_eq_true, List.all_eq_true] at hb
  obtain ⟨S3, h3⟩ := isR_eq (hb.2 v hv)
  have hf : flatRs [IV.int (p : Int), .int (e : Int), v] = true := by
    simp only [List.mem_cons, List.not_mem_nil, or_false] at hv
    rcases hv with rfl | rfl | rfl | rfl <;> rfl
  refine ⟨_, S, vb_ok (c := false) (mAndV_f (mCallO_ok (vs := [v]) (mCons_ok rfl mNil_ok) ?_)) (own_flat hf h3 rfl S), Keep.refl S⟩
  simp only [List.mem_cons, List.not_mem_nil, or_false] at hv
  rcases hv with rfl | rfl | rfl | rfl
  · exact own_flat (S' := ⟨0, []⟩) rfl rfl rfl S
  · exact own_flat (S' := ⟨0, []⟩) rfl rfl rfl S
  · exact own_flat (S' := ⟨0, []⟩) rfl rfl rfl S
  · exact own_flat (S' := ⟨0, []⟩) rfl rfl rfl S
theorem isI_ref {S : Sto} {k : Nat} {xs : List IV} (g : S.get k = some (.lst xs)) : bIsI [.ref k, .ty .int] S = .ok (.bl false) S := by
  have : tyOf S (.ref k) = some .list := by
    show (match S.get k with | some (.lst _) => some FX.BT.list | none => none) = _
    rw [g]
  show (match tyOf S (.ref k) with | some t => bif noneB .int then R.no else R.ok (IV.bl (isB t .int)) S | none => R.no) = _
  rw [this]
  rfl
theorem vb_ref {x0 x1 x2 x4 x6 d0 : Option IV} {p e : Nat} (hp : Pr p) (h1 : 1 ≤ e) (h2 : e ≤ 30) (k : Nat) (xs : List IV) (S : Sto) (g : S.get k = some (.lst xs)) :
    ∃ d S', vb (El x0 x1 x2 p x4 e x6 (some (.ref k)) d0) S = .nx (El x0 x1 x2 p x4 e x6 (some (.ref k)) d) S' ∧ Keep S S' := by
  have G := good_all hp h1 h2
  have hp' := G.pp
  obtain ⟨S1, q1⟩ := G.prime
  obtain ⟨S2, q2⟩ := G.size
  have o1 := own_flat (as := [.int (p : Int)]) rfl q1 rfl S
  have o2 := own_flat (as := [.int (e : Int), .int 1, .int 30]) rfl q2 rfl S
  have hw : LW.m_is_whole_number [.ref k] S = .ok (.bl false) S := by
    refine mDef_rt (E := [some (.ref k)]) rfl ?_
    unfold LW.b_is_whole_number
    exact mRet_ok (mAndV_f (mCall_ok (mCons_ok rfl (mCons_ok rfl mNil_ok)) (isI_ref g)))
  have hw2 : LW.m__law_is_whole [.ref k] S = .ok (.bl false) S := by
    refine mDef_rt (E := [some (.ref k)]) rfl ?_
    unfold LW.b__law_is_whole
    exact mRet_ok (mAndV_f (mCall_ok (mCons_ok rfl (mCons_ok rfl mNil_ok)) (isI_ref g)))
  have hin : ∀ h : Int, LW.m_is_within [.ref k, .int 0, .int h] S = .ok (.bl false) S := fun h => by
    refine mDef_rt (E := [some (.ref k), some (.int 0), some (.int h)]) rfl ?_
    unfold LW.b_is_within
    exact mRet_ok (mAndV_f (mCallO_ok (vs := [.ref k]) (mCons_ok rfl mNil_ok) ((own_cell rfl S).trans hw)))
  have hx := exp_all hp h1 h2 S
  have hx5 : expo p e ≤ 5 := expo_le (by omega) (by omega)
  have hm : fMul (.int e) (.int (expo p e : Nat)) S = .ok (.int ((e * expo p e : Nat) : Int)) S := by
    show okI (mulFit (e : Int) ((expo p e : Nat) : Int)) _ S = _
    rw [mulN (a := 20) (b := 20) (by omega) (by omega) (by omega), ← Int.natCast_mul]
    rfl
  have hin2 : LW.m_is_step_in [.int p, .int e, .ref k] S = .ok (.bl false) S := by
    refine mDef_rt (E := [some (.int p), some (.int e), some (.ref k), none]) rfl ?_
    unfold LW.b_is_step_in
    refine (mSeq_nx (E1 := [some (.int p), some (.int e), some (.ref k), some (.int ((e * expo p e : Nat) : Int))]) (mSet_ok (mB_ok rfl (mCallO_ok (mCons_ok rfl (mCons_ok rfl mNil_ok)) hx) hm))).trans ?_
    exact mRet_ok (mAndV_f (mCallO_ok (vs := [.ref k, .int 0, .int ((e * expo p e : Nat) : Int)]) (mCons_ok rfl (mCons_ok rfl (mCons_ok rfl mNil_ok))) ((own_cell rfl S).trans (hin _))))
  have hst : LW.m_is_step_number [.int p, .int e, .ref k] S = .ok (.bl false) S := by
    refine mDef_rt (E := [some (.int p), some (.int e), some (.ref k)]) rfl ?_
    unfold LW.b_is_step_number
    refine (mSeq_nx (mDrop_ok (mCallO_ok (mCons_ok rfl mNil_ok) o1))).trans ?_
    refine (mSeq_nx (mDrop_ok (mCallO_ok (mCons_ok rfl (mCons_ok rfl (mCons_ok rfl mNil_ok))) o2))).trans ?_
    exact mRet_ok (mCallO_ok (vs := [.int p, .int e, .ref k]) (mCons_ok rfl (mCons_ok rfl (mCons_ok rfl mNil_ok))) ((own_cell rfl S).trans hin2))
  exact ⟨_, S, vb_ok (c := false) (mAndV_f (mCallO_ok (vs := [.ref k]) (mCons_ok rfl mNil_ok) ((own_cell rfl S).trans hw2))) ((own_cell rfl S).trans hst), Keep.refl S⟩
def valI (k : Nat) : List IV := [.non, .int (-1), .int 0, .int 1, .bl true, .str "1", .tup [.int 1], .int (10 ^ 40 * 10 ^ 40), .int 150, .ref k] ++ rangeI 2 38
theorem vb_any {x0 x1 x2 x4 x6 d0 : Option IV} {p e : Nat} (hp : Pr p) (h1 : 1 ≤ e) (h2 : e ≤ 30) (k : Nat) (xs : List IV) (S : Sto) (g : S.get k = some (.lst xs)) (v : IV) (hv : v ∈ valI k) :
    ∃ d S', vb (El x0 x1 x2 p x4 e x6 (some v) d0) S = .nx (El x0 x1 x2 p x4 e x6 (some v) d) S' ∧ Keep S S' := by
  unfold valI at hv
  rcases List.mem_append.mp hv with hv | hv
  · simp only [List.mem_cons, List.not_mem_nil, or_false] at hv
    rcases hv with rfl | rfl | rfl | rfl | rfl | rfl | rfl | rfl | rfl | rfl
    · exact vb_other hp h1 h2 _ (by simp) S
    · exact vb_int hp h1 h2 _ (by decide) S
    · exact vb_int hp h1 h2 _ (by decide) S
    · exact vb_int hp h1 h2 _ (by decide) S
    · exact vb_other hp h1 h2 _ (by simp) S
    · exact vb_other hp h1 h2 _ (by simp) S
    · exact vb_other hp h1 h2 _ (by simp) S
    · exact vb_int hp h1 h2 _ (by decide) S
    · exact vb_int hp h1 h2 _ (by decide) S
    · exact vb_ref hp h1 h2 k xs S g
  · obtain ⟨m, rfl, hm⟩ := mem_rangeI 38 2 v hv
    refine vb_int hp h1 h2 _ ?_ S
    unfold vals
    refine List.mem_append_right _ (List.mem_map.mpr ⟨2 + m, List.mem_range'_1.mpr ⟨by omega, by omega⟩, by omega⟩)
/-- the list of values -/
def vl : ME := mB fAdd (mLst (mCons (mC .non) (mCons (mU fNeg (mC (.int 1))) (mCons (mC (.int 0)) (mCons (mC (.int 1)) (mCons (mC (.bl true)) (mCons (mC (.str "1")) (mCons (mTup (mCons (mC (.int 1)) mNil)) (mCons (mB fMul (mB fPow (mC (.int 10)) (mC (.int 40))) (mB fPow (mC (.int 10)) (mC (.int 40)))) (mCons (mC (.int 150)) (mCons (mLst (mCons (mC (.int 1)) mNil)) mNil))))))))))) (mB fLstRg2 (mC (.int 2)) (mC (.int 40)))
theorem vl_ok (E : Env') (S : Sto) : ∃ n k S', vl E S = .ok (.ref n) S' ∧ S'.get n = some (.lst (valI k)) ∧ S'.get k = some (.lst [.int 1]) := by
  let S1 := S.new (.lst [.int 1])
  let A : List IV := [.non, .int (-1), .int 0, .int 1, .bl true, .str "1", .tup [.int 1], .int (10 ^ 40 * 10 ^ 40), .int 150, .ref S.top]
  let S2 := S1.new (.lst A)
  let S3 := S2.new (.lst (rangeI 2 38))
  have g2 : S3.get S1.top = some (.lst A) := (Keep.new S2 _) _ _ (get_new S1 _)
  have g3 : S3.get S2.top = some (.lst (rangeI 2 38)) := get_new S2 _
  have g1 : S3.get S.top = some (.lst [.int 1]) := (Keep.new S2 _) _ _ ((Keep.new S1 _) _ _ (get_new S _))
  refine ⟨S3.top, S.top, S3.new (.lst (valI S.top)), ?_, get_new S3 _, (Keep.new S3 _) _ _ g1⟩
  have hl : mLst (mCons (mC (.int 1)) mNil) E S = .ok (.ref S.top) S1 := mLst_ok (mCons_ok rfl mNil_ok) (show 1 < 1000000 by decide)
  have ht : mTup (mCons (mC (.int 1)) mNil) E S = .ok (.tup [.int 1]) S := mTup_ok (mCons_ok rfl mNil_ok) (show 1 < 1000000 by decide)
  exact mB_ok (mLst_ok (mCons_ok rfl (mCons_ok rfl (mCons_ok rfl (mCons_ok rfl (mCons_ok rfl (mCons_ok rfl (mCons_ok ht (mCons_ok rfl (mCons_ok rfl (mCons_ok hl mNil_ok)))))))))) (show 10 < 1000000 by decide)) (S2 := S3) (b := .ref S2.top) rfl (fAdd_lst g2 g3 (by rw [len_rangeI]; exact (show 10 + 38 < 1000000 by decide)))
theorem vloop_ok {x0 x1 x2 x4 x6 v0 d0 : Option IV} {p e : Nat} (hp : Pr p) (h1 : 1 ≤ e) (h2 : e ≤ 30) (S : Sto) :
    ∃ v d S', mFor 1000000 (mSeqW vl) (.name 7) vb (El x0 x1 x2 p x4 e x6 v0 d0) S = .nx (El x0 x1 x2 p x4 e x6 v d) S' := by
  obtain ⟨n, k, S1, e1, g1, g2⟩ := vl_ok (El x0 x1 x2 p x4 e x6 v0 d0) S
  have hw : mSeqW vl (El x0 x1 x2 p x4 e x6 v0 d0) S = .ok (.cell n 0) S1 := by
    unfold mSeqW
    rw [e1]
    show (match S1.get n with | some (.lst _) => R.ok (Wk.cell n 0) S1 | none => R.no) = _
    rw [g1]
  have hlen : (valI k).length = 48 := by
    unfold valI
    rw [List.length_append, len_rangeI]
    rfl
  have key := forGo_cell (tg := .name 7) (b := vb) (n := n) (xs := valI k) (fun i E S => (∃ v d, E = El x0 x1 x2 p x4 e x6 v d) ∧ S.get n = some (.lst (valI k)) ∧ S.get k = some (.lst [.int 1])) (fun i E S h => h.2.1) ?_ 48 1000000 0 (El x0 x1 x2 p x4 e x6 v0 d0) S1 (by omega) (by omega) (by omega) ⟨⟨v0, d0, rfl⟩, g1, g2⟩
  · obtain ⟨E', S', hgo, ⟨v, d, rfl⟩, _⟩ := key
    exact ⟨v, d, S', (mFor_wk hw).trans hgo⟩
  · rintro i x E S hx ⟨⟨v, d, rfl⟩, g, g'⟩
    obtain ⟨d', S', hb, kp⟩ := vb_any (x0 := x0) (x1 := x1) (x2 := x2) (x4 := x4) (x6 := x6) (d0 := d) hp h1 h2 k _ S g' x (List.mem_of_getElem? hx)
    exact ⟨El x0 x1 x2 p x4 e x6 (some x) d, _, S', rfl, hb, ⟨_, _, rfl⟩, kp _ _ g, kp _ _ g'⟩
end P53

set_option Elab.async false
set_option linter.all false
set_option maxRecDepth 100000
set_option maxHeartbeats 2000000
set_option autoImplicit false
namespace P53
open PySem PySem.Spec PyProof.Rows L2 FX FX.Ar
def rollE (t : Int) : ME := mB fAdd (mC (.int 1)) (mCallO LW.m__law_roll (mCons (mV 2) (mCons (mC (.int t)) mNil)))
def eL : ME := mCallO LW.m__law_one_of (mCons (mV 2) (mCons (mLst (mCons (mV 3) (mCons (mB fMul (mC (.int 2)) (mV 3)) (mCons (mC (.int 12)) (mCons (mC (.int 16)) (mCons (mC (.int 27)) mNil)))))) mNil))
def ifS : MS := mIfS (mOrT (mNotT (mTru (mCallO LW.m__law_sizes_right (mCons (mV 3) (mCons (mV 4) (mCons (mV 5) mNil)))))) (mNotT (mTru (mCallO LW.m__law_sizes_right (mCons (mV 3) (mCons (mC (.int 1)) (mCons eL mNil))))))) (mRet (mC (.bl false))) mSkip
def ifD : MS := mIfS (mNotT (mTru (mCallO LW.m__law_degree_right (mCons (mV 3) (mCons (mV 6) mNil))))) (mRet (mC (.bl false))) mSkip
def lbody (N : Nat) : MS := mSeq (mSet 2 (mCallO LW.m__law_dice (mCons (mV 0) (mCons (mV 1) mNil))))
    (mSeq (mSet 3 (mCallO LW.m__law_one_of (mCons (mV 2) (mCons (mLst (mCons (mC (.int 2)) (mCons (mC (.int 2)) (mCons (mC (.int 3)) (mCons (mC (.int 3)) (mCons (mC (.int 5)) (mCons (mC (.int 7)) mNil))))))) mNil))))
    (mSeq (mPar3 4 5 6 (mCons (rollE 12) (mCons (rollE 30) (mCons (rollE 12) mNil)))) (mSeq ifS (mSeq ifD (mFor N (mSeqW vl) (.name 7) vb)))))
theorem roll_step {E : Env'} {S : Sto} {n k : Nat} (t : Nat) (hE : mV 2 E S = .ok (.ref n) S) (h : Dice.At S n k) (ht : 0 < t) (ht2 : t < 2 ^ 20) (hk : k < 1000) :
    ∃ (r : Nat) (S' : Sto), rollE t E S = .ok (.int r) S' ∧ 1 ≤ r ∧ r ≤ t ∧ Dice.At S' n (k + 1) := by
  obtain ⟨r, S', e, h1, h2, _, _⟩ := Dice.own_roll t h ht ht2 hk
  refine ⟨r + 1, S', ?_, by omega, by omega, h2⟩
  refine mB_ok rfl (mCallO_ok (mCons_ok hE (mCons_ok rfl mNil_ok)) e) ?_
  show R.ok (IV.int (1 + (r : Int))) S' = _
  rw [show (1 : Int) + (r : Int) = ((r + 1 : Nat) : Int) by omega]
theorem lbody_ok (ns : List Int) (hl : ns.length ≤ 63) (at_ : Nat) (ha : at_ ≤ 63) (x2 x3 x4 x5 x6 x7 x8 : Option IV) (S : Sto) :
    ∃ y2 y3 y4 y5 y6 y7 y8 S', lbody 1000000 [some (.frz (ns.map IV.int)), some (.int at_), x2, x3, x4, x5, x6, x7, x8] S = .nx [some (.frz (ns.map IV.int)), some (.int at_), y2, y3, y4, y5, y6, y7, y8] S' := by
  obtain ⟨S1, e1, a1, _, t1⟩ := Dice.own_dice ns at_ S hl ha
  generalize S.top = n at *
  let L6 : List IV := [.int 2, .int 2, .int 3, .int 3, .int 5, .int 7]
  obtain ⟨v, S3, e3, hv, a3, _, _⟩ := Dice.own_one_lst (m := S1.top) (a1.new (.lst L6)) (by omega) (get_new S1 _) (show 0 < 6 by decide) (show 6 < 1000 by decide) (by decide)
  obtain ⟨p, rfl, hp⟩ : ∃ p : Nat, v = .int p ∧ Pr p := by
    simp only [L6, List.mem_cons, List.not_mem_nil, or_false] at hv
    rcases hv with rfl | rfl | rfl | rfl | rfl | rfl
    · exact ⟨2, rfl, .inl rfl⟩
    · exact ⟨2, rfl, .inl rfl⟩
    · exact ⟨3, rfl, .inr (.inl rfl)⟩
    · exact ⟨3, rfl, .inr (.inl rfl)⟩
    · exact ⟨5, rfl, .inr (.inr (.inl rfl))⟩
    · exact ⟨7, rfl, .inr (.inr (.inr rfl))⟩
  have hp7 : p < 8 ∧ 2 ≤ p := by rcases hp with rfl | rfl | rfl | rfl <;> decide
  obtain ⟨f, S4, e4, f1, f2, a4⟩ := roll_step (E := [some (.frz (ns.map IV.int)), some (.int at_), some (.ref n), some (.int p), x4, x5, x6, x7, x8]) 12 rfl a3 (by decide) (by decide) (by decide)
  obtain ⟨e, S5, e5, g1, g2, a5⟩ := roll_step (E := [some (.frz (ns.map IV.int)), some (.int at_), some (.ref n), some (.int p), x4, x5, x6, x7, x8]) 30 rfl a4 (by decide) (by decide) (by decide)
  obtain ⟨d, S6, e6, d1, d2, a6⟩ := roll_step (E := [some (.frz (ns.map IV.int)), some (.int at_), some (.ref n), some (.int p), x4, x5, x6, x7, x8]) 12 rfl a5 (by decide) (by decide) (by decide)
  let L5 : List IV := [.int p, .int (2 * p : Nat), .int (12 : Nat), .int (16 : Nat), .int (27 : Nat)]
  obtain ⟨w, S7, e7, hw, _, _, _⟩ := Dice.own_one_lst (m := S6.top) (a6.new (.lst L5)) (by have := a6.lt; omega) (get_new S6 _) (show 0 < 5 by decide) (show 5 < 1000 by decide) (by decide)
  obtain ⟨e', rfl, w1, w2⟩ : ∃ e' : Nat, w = .int e' ∧ 1 ≤ e' ∧ e' ≤ 30 := by
    simp only [L5, List.mem_cons, List.not_mem_nil, or_false] at hw
    rcases hw with rfl | rfl | rfl | rfl | rfl
    · exact ⟨p, rfl, by omega, by omega⟩
    · exact ⟨2 * p, rfl, by omega, by omega⟩
    · exact ⟨12, rfl, by decide, by decide⟩
    · exact ⟨16, rfl, by decide, by decide⟩
    · exact ⟨27, rfl, by decide, by decide⟩
  have s1 := sizes_all hp g1 g2 f1 f2 S6
  have s2 := sizes_all (f := 1) hp w1 w2 (by decide) (by decide) S7
  obtain ⟨S8, hd⟩ := deg_all hp d1 d2
  have s3 := own_flat (as := [.int (p : Int), .int (d : Int)]) rfl hd rfl S7
  obtain ⟨y7, y8, S9, e9⟩ := vloop_ok (x0 := some (.frz (ns.map IV.int))) (x1 := some (.int at_)) (x2 := some (.ref n)) (x4 := some (.int f)) (x6 := some (.int d)) (v0 := x7) (d0 := x8) hp g1 g2 S7
  generalize 1000000 = N at e9 ⊢
  refine ⟨some (.ref n), some (.int p), some (.int f), some (.int e), some (.int d), y7, y8, S9, ?_⟩
  unfold lbody
  refine (mSeq_nx (E1 := [some (.frz (ns.map IV.int)), some (.int at_), some (.ref n), x3, x4, x5, x6, x7, x8]) (mSet_ok (mCallO_ok (mCons_ok rfl (mCons_ok rfl mNil_ok)) e1))).trans ?_
  refine (mSeq_nx (E1 := [some (.frz (ns.map IV.int)), some (.int at_), some (.ref n), some (.int p), x4, x5, x6, x7, x8]) (mSet_ok (mCallO_ok (mCons_ok rfl (mCons_ok (mLst_ok (vs := L6) (mCons_ok rfl (mCons_ok rfl (mCons_ok rfl (mCons_ok rfl (mCons_ok rfl (mCons_ok rfl mNil_ok)))))) (show 6 < 1000000 by decide)) mNil_ok)) e3))).trans ?_
  refine (mSeq_nx (E1 := El (some (.frz (ns.map IV.int))) (some (.int at_)) (some (.ref n)) p (some (.int f)) e (some (.int d)) x7 x8) (mPar3_ok (mCons_ok e4 (mCons_ok e5 (mCons_ok e6 mNil_ok))))).trans ?_
  have hE : eL (El (some (.frz (ns.map IV.int))) (some (.int at_)) (some (.ref n)) p (some (.int f)) e (some (.int d)) x7 x8) S6 = .ok (.int e') S7 := by
    have hm : fMul (.int 2) (.int p) S6 = .ok (.int (2 * p : Nat)) S6 := by
      show okI (mulFit 2 (p : Int)) (2 * (p : Int)) S6 = _
      rw [mulFit_of (i := 2) (j := (p : Int)) (a := 20) (b := 20) (by decide) (show p < 2 ^ 20 by omega) (by decide), show (2 : Int) * (p : Int) = ((2 * p : Nat) : Int) by omega]
      rfl
    exact mCallO_ok (mCons_ok rfl (mCons_ok (mLst_ok (vs := L5) (mCons_ok rfl (mCons_ok (mB_ok rfl rfl hm) (mCons_ok rfl (mCons_ok rfl (mCons_ok rfl mNil_ok))))) (show 5 < 1000000 by decide)) mNil_ok)) e7
  refine (mSeq_nx (mIfS_f (mOrT_f (mNotT_ok (mTru_bl (mCallO_ok (mCons_ok rfl (mCons_ok rfl (mCons_ok rfl mNil_ok))) s1))) (mNotT_ok (mTru_bl (mCallO_ok (mCons_ok rfl (mCons_ok rfl (mCons_ok hE mNil_ok))) s2)))))).trans ?_
  refine (mSeq_nx (mIfS_f (mNotT_ok (mTru_bl (mCallO_ok (mCons_ok rfl (mCons_ok rfl mNil_ok)) s3))))).trans ?_
  exact e9
theorem counts : (isR (.int 7) (LW.m_closure_count [.int 2, .int 2] ⟨0, []⟩) && isR (.int 3) (LW.m_closure_count [.int 3, .int 2] ⟨0, []⟩) && isR (.int 22) (LW.m_closure_count [.int 3, .int 3] ⟨0, []⟩)) = true := by decide +kernel
def Ok (ns : List Int) (E : Env') : Prop := ∃ y1 y2 y3 y4 y5 y6 y7 y8, E = [some (.frz (ns.map IV.int)), y1, y2, y3, y4, y5, y6, y7, y8]
theorem law_true (ns : List Int) (hl : ns.length ≤ 63) : ∃ S, LW.m_law [.frz (ns.map FX.IV.int)] ⟨0, []⟩ = .ok (.bl true) S := by
  have hc := counts
  simp only [Bool.and_eq_true] at hc
  obtain ⟨Sa, ca⟩ := isR_eq hc.1.1
  obtain ⟨Sb, cb⟩ := isR_eq hc.1.2
  obtain ⟨Sc, cc⟩ := isR_eq hc.2
  obtain ⟨m, hm4, hmax⟩ : ∃ m : Nat, m ≤ 4 ∧ ∀ S, mCall bMax (mCons (mC (.int 1)) (mCons (mCall bMin (mCons (mCall bLen (mCons (mV 0) mNil)) (mCons (mC (.int 4)) mNil))) mNil)) [some (.frz (ns.map IV.int)), none, none, none, none, none, none, none, none] S = .ok (.int m) S := by
    have hlen : ∀ S, bLen [.frz (ns.map IV.int)] S = .ok (.int (ns.length : Nat)) S := fun S => by
      show R.ok (IV.int ((ns.map IV.int).length : Nat)) S = _
      rw [List.length_map]
    refine ⟨if (if (4 : Int) < (ns.length : Int) then (4 : Int) else (ns.length : Int)) > 1 then (if (4 : Int) < (ns.length : Int) then (4 : Int) else (ns.length : Int)).toNat else 1, ?_, fun S => ?_⟩
    · split <;> split at * <;> omega
    · refine mCall_ok (mCons_ok rfl (mCons_ok (mCall_ok (mCons_ok (mCall_ok (mCons_ok rfl mNil_ok) (hlen S)) (mCons_ok rfl mNil_ok)) rfl) mNil_ok)) ?_
      show R.ok (IV.int (if (if (4 : Int) < (ns.length : Int) then (4 : Int) else (ns.length : Int)) > 1 then (if (4 : Int) < (ns.length : Int) then (4 : Int) else (ns.length : Int)) else 1)) S = _
      congr 2
      split <;> split at * <;> omega
  have key := forGo_items (tg := .name 1) (b := lbody 1000000) (fun r E S => Ok ns E ∧ ∀ x ∈ r, ∃ a : Nat, x = .int a ∧ a ≤ 63) ?_ (rangeI 0 m) 1000000 [some (.frz (ns.map IV.int)), none, none, none, none, none, none, none, none] ⟨0, []⟩ (by rw [len_rangeI]; omega) ⟨⟨none, none, none, none, none, none, none, none, rfl⟩, fun x hx => ?_⟩
  · obtain ⟨E', S', hgo, ⟨y1, y2, y3, y4, y5, y6, y7, y8, rfl⟩, _⟩ := key
    have oa := own_flat (as := [.int 2, .int 2]) rfl ca rfl S'
    have ob := own_flat (as := [.int 3, .int 2]) rfl cb rfl S'
    have oc := own_flat (as := [.int 3, .int 3]) rfl cc rfl S'
    let E1 : Env' := [some (.frz (ns.map IV.int)), y1, y2, y3, y4, y5, y6, y7, y8]
    have h1 : mLst (mCons (mCallO LW.m_closure_count (mCons (mC (.int 2)) (mCons (mC (.int 2)) mNil))) (mCons (mCallO LW.m_closure_count (mCons (mC (.int 3)) (mCons (mC (.int 2)) mNil))) (mCons (mCallO LW.m_closure_count (mCons (mC (.int 3)) (mCons (mC (.int 3)) mNil))) mNil))) E1 S' = .ok (.ref S'.top) (S'.new (.lst ([7, 3, 22].map IV.int))) :=
      mLst_ok (mCons_ok (mCallO_ok (mCons_ok rfl (mCons_ok rfl mNil_ok)) oa) (mCons_ok (mCallO_ok (mCons_ok rfl (mCons_ok rfl mNil_ok)) ob) (mCons_ok (mCallO_ok (mCons_ok rfl (mCons_ok rfl mNil_ok)) oc) mNil_ok))) (show 3 < 1000000 by decide)
    have h2 : ∀ S, mLst (mCons (mC (.int 7)) (mCons (mC (.int 3)) (mCons (mC (.int 22)) mNil))) E1 S = .ok (.ref S.top) (S.new (.lst ([7, 3, 22].map IV.int))) := fun S =>
      mLst_ok (mCons_ok rfl (mCons_ok rfl (mCons_ok rfl mNil_ok))) (show 3 < 1000000 by decide)
    have h3 := eqIV_lst ((S'.new (.lst ([7, 3, 22].map IV.int))).new (.lst ([7, 3, 22].map IV.int))) S'.top (S'.new (.lst ([7, 3, 22].map IV.int))).top [7, 3, 22] [7, 3, 22] ((Keep.new _ _) _ _ (get_new S' _)) (get_new _ _) (by decide) (by decide)
    rw [decide_eq_true rfl] at h3
    refine ⟨(S'.new (.lst ([7, 3, 22].map IV.int))).new (.lst ([7, 3, 22].map IV.int)), mDef_rt (E := [some (.frz (ns.map IV.int)), none, none, none, none, none, none, none, none]) rfl ?_⟩
    have e0 : LW.b_law = mSeq (mFor 1000000 (mWk fRange (mCons (mCall bMax (mCons (mC (.int 1)) (mCons (mCall bMin (mCons (mCall bLen (mCons (mV 0) mNil)) (mCons (mC (.int 4)) mNil))) mNil))) mNil)) (.name 1) (lbody 1000000))
      (mRet (mB fEq (mLst (mCons (mCallO LW.m_closure_count (mCons (mC (.int 2)) (mCons (mC (.int 2)) mNil))) (mCons (mCallO LW.m_closure_count (mCons (mC (.int 3)) (mCons (mC (.int 2)) mNil))) (mCons (mCallO LW.m_closure_count (mCons (mC (.int 3)) (mCons (mC (.int 3)) mNil))) mNil)))) (mLst (mCons (mC (.int 7)) (mCons (mC (.int 3)) (mCons (mC (.int 22)) mNil)))))) := rfl
    rw [e0]
    generalize 1000000 = N at hgo ⊢
    refine (mSeq_nx (E1 := E1) (S1 := S') ((mFor_range1 (hmax _) (by omega)).trans hgo)).trans ?_
    refine mRet_ok (mB_ok h1 (h2 _) ?_)
    unfold fEq
    rw [h3]
  · rintro x r E S ⟨⟨y1, y2, y3, y4, y5, y6, y7, y8, rfl⟩, h⟩
    obtain ⟨a, rfl, ha⟩ := h x (List.mem_cons_self ..)
    obtain ⟨z2, z3, z4, z5, z6, z7, z8, S', e⟩ := lbody_ok ns hl a ha y2 y3 y4 y5 y6 y7 y8 S
    exact ⟨_, _, S', rfl, e, ⟨_, _, _, _, _, _, _, _, rfl⟩, fun x hx => h x (List.mem_cons_of_mem _ hx)⟩
  · obtain ⟨a, rfl, ha⟩ := mem_rangeI m 0 x hx
    exact ⟨a, by rw [Int.zero_add], by omega⟩
end P53

theorem PySem.Challenge.cw_wildsteps_k53_whole_step_numbers_and_cou_holds : PySem.Challenge.rw_wildsteps_k53_whole_step_numbers_and_cou.Holds := by
  exact LW.holds_of P53.law_true
