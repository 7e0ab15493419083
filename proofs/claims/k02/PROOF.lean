import PyProof.Rows.All
import Wide.All
import OpenK.AllK
import Wide.FinOn
import KE.KStateDown
import HandS.ForMost
import HandS.ForExc
import HandS.Defaults
import HandS.Wide
import HandS.Gcd
import HandS.IsInst
import HandS.Lambda
import HandS.TupAny
import HandS.TupMul
import HandS.Deep
import HandS.DeepEq
import HandS.Conv
import HandS.Style
import HandS.Zip
import HandS.HeadHook2
import HandS.HeadEnd
import Lean
import HandS.Head0
import HandS.Head1
import HandS.Head2
import HandS.HeadHook1
import KE.GoesMore
import KE.GoesEnum
import HandS.Sort
import HandS.Star
import HandS.Dict
import HandS.SetFor
import HandS.SortInts
import HandS.Strs
import HandS.AnyAll
import PyProof.GenQ
import KE.KDictIter
import HandS.EndTab
import PyProof.WalksMore
import HandS.Head3
import PySem.Challenge.RW_wildsteps_k02_whole_powers_or_papers
set_option Elab.async false
set_option linter.all false
set_option maxRecDepth 100000
set_option maxHeartbeats 2000000
set_option autoImplicit false
/-! FX: readings as functions. A def of the program becomes a plain Lean function over values without addresses (IV) and a small store of lists; a rule a construct says that the model does what the function tells. -/
namespace FX
open PySem PySem.Spec PyProof.Rows L2

/-! ### values, stores, results -/
/-- built-in classes that the text names, types of values -/
inductive BT where
  | int | bool | str | tuple | list | dict | none
  deriving DecidableEq
def BT.name : BT → String
  | .int => "int"
  | .bool => "bool"
  | .str => "str"
  | .tuple => "tuple"
  | .list => "list"
  | .dict => "dict"
  | .none => "NoneType"
inductive IV where
  | non | bl (b : Bool) | int (i : Int) | str (x : Str) | tup (xs : List IV) | frz (xs : List IV) | ref (n : Nat) | glo (n : Nat) | ty (s : BT)
inductive IO where
  | lst (xs : List IV)
  /-- a dict whose keys are ints and texts -/
  | dct (kvs : List (L2.Key × IV))
/-- the newest cell first; a cell that stands at the place top - 1 - i has the name i -/
structure Sto where
  top : Nat
  cells : List IO
def Sto.get (S : Sto) (i : Nat) : Option IO := if i < S.top then S.cells[S.top - 1 - i]? else none
def Sto.new (S : Sto) (o : IO) : Sto := ⟨S.top + 1, o :: S.cells⟩
def Sto.put (S : Sto) (i : Nat) (o : IO) : Sto := ⟨S.top, S.cells.set (S.top - 1 - i) o⟩
structure Ex where
  cls : Nat
  arg : Option IV
inductive R (α : Type) where
  | ok (a : α) (S : Sto)
  | ex (e : Ex) (S : Sto)
  | no
def R.bind {α β : Type} (r : R α) (k : α → Sto → R β) : R β := match r with
  | .ok a S => k a S
  | .ex e S => .ex e S
  | .no => .no
abbrev Env' := List (Option IV)
abbrev ME := Env' → Sto → R IV
abbrev MA := Env' → Sto → R (List IV)
abbrev MF := List IV → Sto → R IV

theorem get_new (S : Sto) (o : IO) : (S.new o).get S.top = some o := by
  unfold Sto.get Sto.new
  simp
theorem get_new_ne {S : Sto} {o : IO} {i : Nat} (h : i ≠ S.top) : (S.new o).get i = S.get i := by
  unfold Sto.get Sto.new
  by_cases h1 : i < S.top
  · have h2 : i < S.top + 1 := by omega
    have h3 : S.top + 1 - 1 - i = (S.top - 1 - i) + 1 := by omega
    simp only [h1, h2, if_true, h3, List.getElem?_cons_succ]
  · have h2 : ¬ i < S.top + 1 := by omega
    simp only [h1, h2, if_false]
theorem get_lt {S : Sto} {i : Nat} {o : IO} (h : S.get i = some o) : i < S.top := by
  unfold Sto.get at h
  by_cases h1 : i < S.top
  · exact h1
  · rw [if_neg h1] at h
    cases h
theorem get_put {S : Sto} {i : Nat} {o o' : IO} (h : S.get i = some o) : (S.put i o').get i = some o' := by
  have hl := get_lt h
  unfold Sto.get at h
  rw [if_pos hl] at h
  obtain ⟨h1, _⟩ := List.getElem?_eq_some_iff.mp h
  unfold Sto.get Sto.put
  simp only [hl, if_true]
  rw [List.getElem?_set_self h1]
theorem get_put_ne {S : Sto} {i j : Nat} {o o' : IO} (hi : S.get i = some o) (h : j ≠ i) : (S.put i o').get j = S.get j := by
  have hl := get_lt hi
  unfold Sto.get Sto.put
  by_cases h1 : j < S.top
  · simp only [h1, if_true]
    rw [List.getElem?_set_ne (by omega)]
  · simp only [h1, if_false]

/-! ### the relation -/
/-- what the text has written: K; the addresses of its names by number -/
structure Wd where
  K : PySem.W.Frag
  G : Nat → Addr
  F : Nat → Str
  /-- the tables of code objects, each with the name of what it tells -/
  T : List (Addr × Str) := []
abbrev Map := Nat → Option Addr
/-- a list that is read alone: the script, or one of the text's own -/
def SqF (K : PySem.W.Frag) (H : Hp) (a : Addr) (xs : List V) : Prop :=
  (∃ o, H a = some (.frz o (.lst xs))) ∨
    ∃ (o : Obj) (its : Array Value) (n : Nat), K.lookup a = some o ∧ o.cls = .type "list" ∧ o.dict = none ∧ o.data = .seq its n ∧ its.size ≤ sizeLine ∧ Vals xs its.toList
theorem SqF.sq {K : PySem.W.Frag} {H : Hp} {a : Addr} {xs : List V} (h : SqF K H a xs) : SqL K H a xs := by
  rcases h with ⟨o, h⟩ | h
  · exact .inl (.inr ⟨o, h⟩)
  · exact .inr h
mutual
def RV (C : Wd) (ρ : Map) (H : Hp) : IV → V → Prop
  | .non, v => v = .non
  | .bl b, v => v = .bl b
  | .int i, v => v = .int i
  | .str x, v => v = .str x
  | .ty s, v => v = .ty s.name
  | .glo n, v => v = .ref (C.G n)
  | .ref n, v => ∃ a, ρ n = some a ∧ v = .ref a
  | .tup xs, v => ∃ a vs, v = .ref a ∧ SqT C.K H a vs ∧ RVs C ρ H xs vs
  | .frz xs, v => ∃ a vs, v = .ref a ∧ SqF C.K H a vs ∧ RVs C ρ H xs vs
def RVs (C : Wd) (ρ : Map) (H : Hp) : List IV → List V → Prop
  | [], vs => vs = []
  | x :: xs, vs => ∃ v r, vs = v :: r ∧ RV C ρ H x v ∧ RVs C ρ H xs r
end
def RO (C : Wd) (ρ : Map) (H : Hp) : IO → HO → Prop
  | .lst xs, o => ∃ vs, o = .lst vs ∧ RVs C ρ H xs vs
  | .dct kvs, o => ∃ ws, o = .dK ws ∧ ws.map (·.1) = kvs.map (·.1) ∧ RVs C ρ H (kvs.map (·.2)) (ws.map (·.2))
/-- a tracked object that may be a cell -/
def isCell : HO → Bool
  | .lst _ => true
  | .dK _ => true
  | _ => false
/-- a code object's table -/
def isTbl : HO → Bool
  | .tbl _ => true
  | _ => false
theorem isTbl_cell {o : HO} (h : isCell o = true) : isTbl o = false := by cases o <;> first | rfl | cases h
structure Rel (C : Wd) (ρ : Map) (S : Sto) (H : Hp) : Prop where
  obj : ∀ i o, S.get i = some o → ∃ a ho, ρ i = some a ∧ H a = some ho ∧ RO C ρ H o ho
  inj : ∀ i j a, ρ i = some a → ρ j = some a → i = j
  live : ∀ i a, ρ i = some a → i < S.top ∧ ∃ ho, H a = some ho ∧ isCell ho = true
  tabs : LamX.Tabs C.T H
structure Ext (ρ : Map) (S : Sto) (H : Hp) (ρ' : Map) (S' : Sto) (H' : Hp) : Prop where
  map : ∀ i a, ρ i = some a → ρ' i = some a
  old : ∀ i a, ρ' i = some a → i < S.top → ρ i = some a
  fresh : ∀ i a, ρ' i = some a → S.top ≤ i → H a = none
  grow : ∃ k, S'.top = S.top + k ∧ S'.cells.length = S.cells.length + k
  frame : ∀ b o, H b = some o → isTbl o = false → (∀ i, S.get i ≠ none → ρ i ≠ some b) → H' b = some o
  there : ∀ b, H' b = none → H b = none
  dom : ∀ i, i < S.top → S'.get i ≠ none → S.get i ≠ none
theorem Ext.refl {ρ : Map} {S : Sto} {H : Hp} (hl : ∀ i a, ρ i = some a → i < S.top) : Ext ρ S H ρ S H :=
  ⟨fun _ _ h => h, fun _ _ h _ => h, fun i a h z => absurd (hl i a h) (Nat.not_lt.mpr z), ⟨0, rfl, rfl⟩, fun _ _ h _ _ => h, fun _ h => h, fun _ _ h => h⟩
theorem Rel.refl {C : Wd} {ρ : Map} {S : Sto} {H : Hp} (r : Rel C ρ S H) : Ext ρ S H ρ S H := Ext.refl fun i a h => (r.live i a h).1
theorem Ext.top {ρ ρ' : Map} {S S' : Sto} {H H' : Hp} (e : Ext ρ S H ρ' S' H') : S.top ≤ S'.top := by
  obtain ⟨k, h, _⟩ := e.grow
  omega
theorem Ext.trans {ρ ρ1 ρ2 : Map} {S S1 S2 : Sto} {H H1 H2 : Hp} (a : Ext ρ S H ρ1 S1 H1) (b : Ext ρ1 S1 H1 ρ2 S2 H2) : Ext ρ S H ρ2 S2 H2 where
  map := fun i x h => b.map i x (a.map i x h)
  old := fun i x h hl => a.old i x (b.old i x h (Nat.lt_of_lt_of_le hl a.top)) hl
  fresh := fun i x h hl => by
    by_cases h1 : i < S1.top
    · exact a.fresh i x (b.old i x h h1) hl
    · exact a.there x (b.fresh i x h (Nat.le_of_not_lt h1))
  grow := by
    obtain ⟨k, h1, h2⟩ := a.grow
    obtain ⟨l, h3, h4⟩ := b.grow
    exact ⟨k + l, by omega, by omega⟩
  frame := fun x o h ht hn => by
    refine b.frame x o (a.frame x o h ht hn) ht fun i hi hx => ?_
    by_cases hl : i < S.top
    · exact hn i (a.dom i hl hi) (a.old i x hx hl)
    · rw [a.fresh i x hx (Nat.le_of_not_lt hl)] at h
      cases h
  there := fun x h => a.there x (b.there x h)
  dom := fun i hl h => a.dom i hl (b.dom i (Nat.lt_of_lt_of_le hl a.top) h)

section
variable {C : Wd} {ρ ρ' : Map} {S S' : Sto} {H H' : Hp}
/-- tuples stay -/
theorem Ext.tup (e : Ext ρ S H ρ' S' H') (r : Rel C ρ S H) {K : PySem.W.Frag} {a : Addr} {xs : List V} (h : SqT K H a xs) : SqT K H' a xs := by
  have key : ∀ o, H a = some o → isCell o = false → isTbl o = false → H' a = some o := fun o ho hc ht => e.frame a o ho ht fun i _ hi => by
    obtain ⟨_, ho', e1, e2⟩ := r.live i a hi
    rw [ho] at e1
    cases e1
    rw [hc] at e2
    cases e2
  rcases h with (h | ⟨o, h⟩) | h
  · exact .inl (.inl (key _ h rfl rfl))
  · exact .inl (.inr ⟨o, key _ h rfl rfl⟩)
  · exact .inr h
theorem Ext.frz (e : Ext ρ S H ρ' S' H') (r : Rel C ρ S H) {K : PySem.W.Frag} {a : Addr} {xs : List V} (h : SqF K H a xs) : SqF K H' a xs := by
  rcases h with ⟨o, h⟩ | h
  · refine .inl ⟨o, e.frame a _ h rfl fun i _ hi => ?_⟩
    obtain ⟨_, ho', e1, e2⟩ := r.live i a hi
    rw [h] at e1
    cases e1
    cases e2
  · exact .inr h
mutual
theorem RV.ext (e : Ext ρ S H ρ' S' H') (r : Rel C ρ S H) : ∀ (x : IV) (v : V), RV C ρ H x v → RV C ρ' H' x v
  | .non, _, h => by unfold RV at h ⊢; exact h
  | .bl b, _, h => by unfold RV at h ⊢; exact h
  | .int i, _, h => by unfold RV at h ⊢; exact h
  | .str i, _, h => by unfold RV at h ⊢; exact h
  | .ty i, _, h => by unfold RV at h ⊢; exact h
  | .glo i, _, h => by unfold RV at h ⊢; exact h
  | .ref n, _, h => by
    unfold RV at h ⊢
    obtain ⟨a, h1, h2⟩ := h
    exact ⟨a, e.map n a h1, h2⟩
  | .tup xs, _, h => by
    unfold RV at h ⊢
    obtain ⟨a, vs, h1, h2, h3⟩ := h
    exact ⟨a, vs, h1, e.tup r h2, RVs.ext e r xs vs h3⟩
  | .frz xs, _, h => by
    unfold RV at h ⊢
    obtain ⟨a, vs, h1, h2, h3⟩ := h
    exact ⟨a, vs, h1, e.frz r h2, RVs.ext e r xs vs h3⟩
theorem RVs.ext (e : Ext ρ S H ρ' S' H') (r : Rel C ρ S H) : ∀ (xs : List IV) (vs : List V), RVs C ρ H xs vs → RVs C ρ' H' xs vs
  | [], _, h => by unfold RVs at h ⊢; exact h
  | x :: xs, _, h => by
    unfold RVs at h ⊢
    obtain ⟨v, q, h1, h2, h3⟩ := h
    exact ⟨v, q, h1, RV.ext e r x v h2, RVs.ext e r xs q h3⟩
end
end

/-! ### a list of values -/
section
variable {C : Wd} {ρ : Map} {H : Hp}
theorem rvs_nil {vs : List V} : RVs C ρ H [] vs ↔ vs = [] := by unfold RVs; exact Iff.rfl
theorem rvs_cons {x : IV} {xs : List IV} {vs : List V} : RVs C ρ H (x :: xs) vs ↔ ∃ v r, vs = v :: r ∧ RV C ρ H x v ∧ RVs C ρ H xs r := by
  constructor
  · intro h; unfold RVs at h; exact h
  · intro h; unfold RVs; exact h
theorem RVs.length : ∀ {xs : List IV} {vs : List V}, RVs C ρ H xs vs → vs.length = xs.length
  | [], _, h => by rw [rvs_nil.mp h]; rfl
  | x :: xs, _, h => by
    obtain ⟨v, r, rfl, _, h3⟩ := rvs_cons.mp h
    simp [RVs.length h3]
theorem RVs.get : ∀ {xs : List IV} {vs : List V} {i : Nat} {x : IV}, RVs C ρ H xs vs → xs[i]? = some x → ∃ v, vs[i]? = some v ∧ RV C ρ H x v
  | [], _, i, x, _, e => by simp at e
  | y :: ys, _, 0, x, h, e => by
    obtain ⟨v, r, rfl, h2, _⟩ := rvs_cons.mp h
    simp at e
    subst e
    exact ⟨v, rfl, h2⟩
  | y :: ys, _, i + 1, x, h, e => by
    obtain ⟨v, r, rfl, _, h3⟩ := rvs_cons.mp h
    obtain ⟨u, h4, h5⟩ := RVs.get (i := i) h3 (by simpa using e)
    exact ⟨u, by simpa using h4, h5⟩
theorem RVs.append : ∀ {xs ys : List IV} {vs ws : List V}, RVs C ρ H xs vs → RVs C ρ H ys ws → RVs C ρ H (xs ++ ys) (vs ++ ws)
  | [], _, _, _, h, h' => by rw [rvs_nil.mp h]; exact h'
  | x :: xs, _, _, _, h, h' => by
    obtain ⟨v, r, rfl, h2, h3⟩ := rvs_cons.mp h
    exact rvs_cons.mpr ⟨v, r ++ _, rfl, h2, RVs.append h3 h'⟩
theorem RVs.set : ∀ {xs : List IV} {vs : List V} (i : Nat) {x : IV} {v : V}, RVs C ρ H xs vs → RV C ρ H x v → RVs C ρ H (xs.set i x) (vs.set i v)
  | [], _, _, _, _, h, _ => by rw [rvs_nil.mp h]; exact rvs_nil.mpr rfl
  | y :: ys, _, 0, _, _, h, h' => by
    obtain ⟨w, r, rfl, _, h3⟩ := rvs_cons.mp h
    exact rvs_cons.mpr ⟨_, r, rfl, h', h3⟩
  | y :: ys, _, i + 1, _, _, h, h' => by
    obtain ⟨w, r, rfl, h2, h3⟩ := rvs_cons.mp h
    exact rvs_cons.mpr ⟨w, _, rfl, h2, RVs.set i h3 h'⟩
theorem RVs.drop : ∀ {xs : List IV} {vs : List V} (n : Nat), RVs C ρ H xs vs → RVs C ρ H (xs.drop n) (vs.drop n)
  | _, _, 0, h => h
  | [], _, n + 1, h => by rw [rvs_nil.mp h]; exact rvs_nil.mpr rfl
  | y :: ys, _, n + 1, h => by
    obtain ⟨w, r, rfl, _, h3⟩ := rvs_cons.mp h
    exact RVs.drop n h3
theorem RVs.take : ∀ {xs : List IV} {vs : List V} (n : Nat), RVs C ρ H xs vs → RVs C ρ H (xs.take n) (vs.take n)
  | _, _, 0, _ => rvs_nil.mpr rfl
  | [], _, n + 1, h => by rw [rvs_nil.mp h]; exact rvs_nil.mpr rfl
  | y :: ys, _, n + 1, h => by
    obtain ⟨w, r, rfl, h2, h3⟩ := rvs_cons.mp h
    exact rvs_cons.mpr ⟨w, _, rfl, h2, RVs.take n h3⟩
theorem RVs.reverse : ∀ {xs : List IV} {vs : List V}, RVs C ρ H xs vs → RVs C ρ H xs.reverse vs.reverse
  | [], _, h => by rw [rvs_nil.mp h]; exact rvs_nil.mpr rfl
  | y :: ys, _, h => by
    obtain ⟨w, r, rfl, h2, h3⟩ := rvs_cons.mp h
    rw [List.reverse_cons, List.reverse_cons]
    exact (RVs.reverse h3).append (rvs_cons.mpr ⟨w, [], rfl, h2, rvs_nil.mpr rfl⟩)
end

/-! ### the frame's slots -/
structure RE (C : Wd) (ρ : Map) (H : Hp) (E : Env') (σ : L2.St) : Prop where
  len : E.length = σ.length
  at_ : ∀ (i : Nat) (x : IV), E[i]? = some (some x) → ∃ v, σ[i]? = some (some v) ∧ RV C ρ H x v
theorem RE.ext {C : Wd} {ρ ρ' : Map} {S S' : Sto} {H H' : Hp} {E : Env'} {σ : L2.St} (q : RE C ρ H E σ) (e : Ext ρ S H ρ' S' H') (r : Rel C ρ S H) : RE C ρ' H' E σ :=
  ⟨q.len, fun i x h => let ⟨v, h1, h2⟩ := q.at_ i x h; ⟨v, h1, RV.ext e r x v h2⟩⟩
theorem RE.set {C : Wd} {ρ : Map} {H : Hp} {E : Env'} {σ : L2.St} (q : RE C ρ H E σ) (i : Nat) {x : IV} {v : V} (h : RV C ρ H x v) : RE C ρ H (E.set i (some x)) (σ.set i (some v)) := by
  refine ⟨by simp [q.len], fun j y e => ?_⟩
  by_cases hj : j = i
  · subst hj
    have hl : j < E.length := by
      have := (List.getElem?_eq_some_iff.mp e).1
      simpa using this
    rw [List.getElem?_set_self hl] at e
    cases e
    exact ⟨v, by rw [List.getElem?_set_self (by rw [← q.len]; exact hl)], h⟩
  · rw [List.getElem?_set_ne (Ne.symm hj)] at e
    obtain ⟨u, h1, h2⟩ := q.at_ j y e
    exact ⟨u, by rw [List.getElem?_set_ne (Ne.symm hj)]; exact h1, h2⟩
end FX

set_option Elab.async false
set_option linter.all false
set_option maxRecDepth 100000
set_option maxHeartbeats 2000000
set_option autoImplicit false
/-! FX1: what is asked of a result; expressions. -/
namespace FX
open PySem PySem.Spec PyProof.Rows L2

/-- an exception as the store tells it, as the model has it -/
def RX (C : Wd) (ρ : Map) (H : Hp) (e : Ex) (cls : Value) (d : Option Addr) : Prop := cls = .ref (C.G e.cls) ∧ match e.arg with
  | none => d = none
  | some v => ∃ dd x, d = some dd ∧ H dd = some (.xd [(C.F e.cls, x)]) ∧ RV C ρ H v x
/-- what holds behind a result -/
def PR (C : Wd) {α β : Type} (rel : Map → Hp → α → β → Prop) (r : R α) (ρ : Map) (S : Sto) (H : Hp) (Q : β → Hp → Prop) (W : XK) : Prop := match r with
  | .ok v S' => ∀ ρ' H' x, Ext ρ S H ρ' S' H' → Rel C ρ' S' H' → rel ρ' H' v x → Q x H'
  | .ex e S' => ∀ ρ' H' cls d, Ext ρ S H ρ' S' H' → Rel C ρ' S' H' → RX C ρ' H' e cls d → W cls d H'
  | .no => False
theorem PR.bind {C : Wd} {α β γ δ : Type} {rel : Map → Hp → α → β → Prop} {rel' : Map → Hp → γ → δ → Prop} {r : R α} {k : α → Sto → R γ} {ρ : Map} {S : Sto} {H : Hp} {Q : δ → Hp → Prop} {W : XK}
    (h : PR C rel' (r.bind k) ρ S H Q W) : PR C rel r ρ S H (fun x H1 => ∃ ρ1 v S1, Ext ρ S H ρ1 S1 H1 ∧ Rel C ρ1 S1 H1 ∧ rel ρ1 H1 v x ∧ PR C rel' (k v S1) ρ1 S1 H1 Q W) W := by
  cases r with
  | ok v S1 =>
    intro ρ1 H1 x e1 r1 q1
    refine ⟨ρ1, v, S1, e1, r1, q1, ?_⟩
    have h : PR C rel' (k v S1) ρ S H Q W := h
    revert h
    cases k v S1 with
    | ok w S2 => exact fun h ρ2 H2 y e2 r2 q2 => h ρ2 H2 y (e1.trans e2) r2 q2
    | ex e S2 => exact fun h ρ2 H2 c d e2 r2 q2 => h ρ2 H2 c d (e1.trans e2) r2 q2
    | no => exact fun h => h
  | ex e S1 => exact h
  | no => exact h
/-- .. told from a later state -/
theorem PR.ext {C : Wd} {α β : Type} {rel : Map → Hp → α → β → Prop} {r : R α} {ρ ρ1 : Map} {S S1 : Sto} {H H1 : Hp} {Q : β → Hp → Prop} {W : XK} (h : PR C rel r ρ S H Q W) (e1 : Ext ρ S H ρ1 S1 H1) : PR C rel r ρ1 S1 H1 Q W := by
  cases r with
  | ok v S' => exact fun ρ2 H2 y e2 r2 q2 => h ρ2 H2 y (e1.trans e2) r2 q2
  | ex e S2 => exact fun ρ2 H2 c d e2 r2 q2 => h ρ2 H2 c d (e1.trans e2) r2 q2
  | no => exact h
theorem PR.mono {C : Wd} {α β : Type} {rel : Map → Hp → α → β → Prop} {r : R α} {ρ : Map} {S : Sto} {H : Hp} {Q Q' : β → Hp → Prop} {W W' : XK} (h : PR C rel r ρ S H Q W) (hq : ∀ x H, Q x H → Q' x H) (hw : ∀ c d H, W c d H → W' c d H) : PR C rel r ρ S H Q' W' := by
  cases r with
  | ok v S' => exact fun ρ2 H2 y e2 r2 q2 => hq _ _ (h ρ2 H2 y e2 r2 q2)
  | ex e S2 => exact fun ρ2 H2 c d e2 r2 q2 => hw _ _ _ (h ρ2 H2 c d e2 r2 q2)
  | no => exact h
def relB (_ : Map) (_ : Hp) (b c : Bool) : Prop := c = b
abbrev MT := Env' → Sto → R Bool
def tI (C : Wd) (m : ME) (W : WX) : TE := fun σ H Q => ∃ ρ E S, RE C ρ H E σ ∧ Rel C ρ S H ∧ PR C (RV C) (m E S) ρ S H Q (fun c d H' => W c d σ H')
def tT (C : Wd) (m : MT) (W : WX) : TT := fun σ H Q => ∃ ρ E S, RE C ρ H E σ ∧ Rel C ρ S H ∧ PR C relB (m E S) ρ S H Q (fun c d H' => W c d σ H')
def tA (C : Wd) (m : MA) (W : WX) : TA := fun σ H Q => ∃ ρ E S, RE C ρ H E σ ∧ Rel C ρ S H ∧ PR C (RVs C) (m E S) ρ S H Q (fun c d H' => W c d σ H')

section
variable {X : Cx} {C : Wd} {W : WX}
theorem pe_mono {e : Expr} {t t' : TE} (h : PE X e t) (m : ∀ σ H Q, t' σ H Q → t σ H Q) : PE X e t' := ⟨fun pins s σ H Q I q => h.run pins s σ H Q I (m _ _ _ q)⟩
theorem pt_mono {e : Expr} {t t' : TT} (h : PT X e t) (m : ∀ σ H Q, t' σ H Q → t σ H Q) : PT X e t' := ⟨fun pins s σ H Q I q => h.run pins s σ H Q I (m _ _ _ q)⟩
theorem pa_mono {e : List Expr} {t t' : TA} (h : PA X e t) (m : ∀ σ H Q, t' σ H Q → t σ H Q) : PA X e t' := ⟨fun pos pins s σ H Q I q => h.run pos pins s σ H Q I (m _ _ _ q)⟩
theorem pw_mono {e : Expr} {t t' : TT} (h : PW X e t) (m : ∀ σ H Q, t' σ H Q → t σ H Q) : PW X e t' := ⟨fun wh pins s σ H Q I q => h.run wh pins s σ H Q I (m _ _ _ q)⟩

/-! ### names, constants -/
def mC (v : IV) : ME := fun _ S => .ok v S
def mV (i : Nat) : ME := fun E S => match E[i]? with
  | some (some v) => .ok v S
  | _ => .no
theorem PR.now {α β : Type} {rel : Map → Hp → α → β → Prop} {v : α} {ρ : Map} {S : Sto} {H : Hp} {Q : β → Hp → Prop} {W : XK} {x : β} (h : PR C rel (.ok v S) ρ S H Q W) (r : Rel C ρ S H) (q : rel ρ H v x) : Q x H := h ρ H x r.refl r q
theorem qe_var {i : Nat} {x : Str} {pos : Pos} (hN : X.N[i]? = some x) (hv : Vis X.env.scope x) (hd : (x == ("__debug__" : Str)) = false := by decide) (hcd : (x == ("__classdict__" : Str)) = false := by decide) : PE X (.Name x pos) (tI C (mV i) W) := by
  refine pe_mono (pe_var (i := i) hN hv hd hcd) fun σ H Q ⟨ρ, E, S, q, r, h⟩ => ?_
  unfold mV at h
  cases e : E[i]? with
  | none => rw [e] at h; exact h.elim
  | some o =>
    cases o with
    | none => rw [e] at h; exact h.elim
    | some v =>
      rw [e] at h
      obtain ⟨x, h1, h2⟩ := q.at_ i v e
      exact ⟨x, h1, h.now r h2⟩
theorem qe_c {v : IV} {x : V} {e : Expr} (h : PE X e (tC x)) (hv : ∀ ρ H, RV C ρ H v x) : PE X e (tI C (mC v) W) :=
  pe_mono h fun σ H Q ⟨ρ, E, S, q, r, h⟩ => h.now r (hv ρ H)
theorem qe_int {i : Int} {j pos} : PE X (.Constant (.int i) j pos) (tI C (mC (.int i)) W) := qe_c pe_int fun _ _ => by unfold RV; rfl
theorem qe_bl {b : Bool} {j pos} : PE X (.Constant (.bool b) j pos) (tI C (mC (.bl b)) W) := qe_c pe_bl fun _ _ => by unfold RV; rfl
theorem qe_non {j pos} : PE X (.Constant .none j pos) (tI C (mC .non) W) := qe_c pe_non fun _ _ => by unfold RV; rfl
theorem qe_str {x : Str} {j pos} : PE X (.Constant (.str x) j pos) (tI C (mC (.str x)) W) := qe_c pe_str fun _ _ => by unfold RV; rfl
theorem qe_gint {x : Str} {i : Int} {t : Tok} {pos : Pos} (hg : Gl X x) (hm : X.mg x = some (.int i t)) (hd : (x == ("__debug__" : Str)) = false := by decide) : PE X (.Name x pos) (tI C (mC (.int i)) W) :=
  qe_c (pe_glob hg hm (v := .int i) ⟨t, rfl⟩ hd) fun _ _ => by unfold RV; rfl
theorem qe_glo {x : Str} {n : Nat} {pos : Pos} (hg : Gl X x) (hm : X.mg x = some (.ref (C.G n))) (hd : (x == ("__debug__" : Str)) = false := by decide) : PE X (.Name x pos) (tI C (mC (.glo n)) W) :=
  qe_c (pe_glob hg hm (v := .ref (C.G n)) rfl hd) fun _ _ => by unfold RV; rfl

/-! ### two operands -/
abbrev MO := IV → IV → Sto → R IV
def mB (f : MO) (ma mb : ME) : ME := fun E S => (ma E S).bind fun a S1 => (mb E S1).bind fun b S2 => f a b S2
def OpF (C : Wd) (f : MO) (r : R2) : Prop := ∀ ρ S H a b x y Q W, Rel C ρ S H → RV C ρ H a x → RV C ρ H b y → PR C (RV C) (f a b S) ρ S H Q W → r x y H Q
theorem two_mono {ma mb : ME} {f : MO} {r : R2} (hf : OpF C f r) {σ : L2.St} {H : Hp} {Q : VK} (h : tI C (mB f ma mb) W σ H Q) : tOp r (tI C ma W) (tI C mb W) σ H Q := by
  obtain ⟨ρ, E, S, q, r0, h⟩ := h
  refine ⟨ρ, E, S, q, r0, PR.mono (PR.bind (rel := RV C) h) (fun x H1 ⟨ρ1, a, S1, e1, r1, x1, h1⟩ => ?_) fun _ _ _ z => z⟩
  refine ⟨ρ1, E, S1, q.ext e1 r0, r1, PR.mono (PR.bind (rel := RV C) h1) (fun y H2 ⟨ρ2, b, S2, e2, r2, y2, h2⟩ => ?_) fun _ _ _ z => z⟩
  exact hf ρ2 S2 H2 a b x y Q _ r2 (x1.ext e2 r1) y2 h2
theorem qe_op {a b : Expr} {ma mb : ME} {op : Operator} {r : R2} {f : MO} {pos : Pos} (ho : OpR X (binaryOp op) r) (hf : OpF C f r) (ha : PE X a (tI C ma W)) (hb : PE X b (tI C mb W)) : PE X (.BinOp a op b pos) (tI C (mB f ma mb) W) :=
  pe_mono (pe_op ho ha hb) fun _ _ _ h => two_mono hf h
theorem OpF.or {f : MO} {r r' : R2} (h : ∀ ρ S H a b x y Q W, Rel C ρ S H → RV C ρ H a x → RV C ρ H b y → PR C (RV C) (f a b S) ρ S H Q W → r x y H Q ∨ r' x y H Q) : OpF C f (fun x y H Q => r x y H Q ∨ r' x y H Q) := h
theorem rv_int {ρ : Map} {H : Hp} {i : Int} {x : V} : RV C ρ H (.int i) x ↔ x = .int i := by unfold RV; exact Iff.rfl
theorem rv_bl {ρ : Map} {H : Hp} {i : Bool} {x : V} : RV C ρ H (.bl i) x ↔ x = .bl i := by unfold RV; exact Iff.rfl
theorem rv_str {ρ : Map} {H : Hp} {i : Str} {x : V} : RV C ρ H (.str i) x ↔ x = .str i := by unfold RV; exact Iff.rfl
theorem rv_non {ρ : Map} {H : Hp} {x : V} : RV C ρ H .non x ↔ x = .non := by unfold RV; exact Iff.rfl
theorem rv_ty {ρ : Map} {H : Hp} {s : BT} {x : V} : RV C ρ H (.ty s) x ↔ x = .ty s.name := by unfold RV; exact Iff.rfl
theorem rv_glo {ρ : Map} {H : Hp} {n : Nat} {x : V} : RV C ρ H (.glo n) x ↔ x = .ref (C.G n) := by unfold RV; exact Iff.rfl
theorem rv_ref {ρ : Map} {H : Hp} {n : Nat} {x : V} : RV C ρ H (.ref n) x ↔ ∃ a, ρ n = some a ∧ x = .ref a := by unfold RV; exact Iff.rfl
theorem rv_tup {ρ : Map} {H : Hp} {xs : List IV} {x : V} : RV C ρ H (.tup xs) x ↔ ∃ a vs, x = .ref a ∧ SqT C.K H a vs ∧ RVs C ρ H xs vs := by unfold RV; exact Iff.rfl
theorem rv_frz {ρ : Map} {H : Hp} {xs : List IV} {x : V} : RV C ρ H (.frz xs) x ↔ ∃ a vs, x = .ref a ∧ SqF C.K H a vs ∧ RVs C ρ H xs vs := by unfold RV; exact Iff.rfl
theorem cell_at {ρ : Map} {S : Sto} {H : Hp} {n : Nat} {xs : List IV} {x : V} (r : Rel C ρ S H) (h : RV C ρ H (.ref n) x) (g : S.get n = some (.lst xs)) : ∃ a vs, ρ n = some a ∧ x = .ref a ∧ H a = some (.lst vs) ∧ RVs C ρ H xs vs := by
  obtain ⟨a, h1, h2⟩ := rv_ref.mp h
  obtain ⟨b, ho, e1, e2, e3⟩ := r.obj n _ g
  rw [h1] at e1
  cases e1
  obtain ⟨vs, rfl, e4⟩ := e3
  exact ⟨a, vs, h1, h2, e2, e4⟩
theorem tabs_new {T : List (Addr × Str)} {H : Hp} {p : Addr} {o : HO} (t : LamX.Tabs T H) (hp : H p = none) : LamX.Tabs T (upd H p o) := t.ext fun b u hb => by rw [upd_ne (ne_of_none hb hp)]; exact hb
theorem tabs_put {T : List (Addr × Str)} {H : Hp} {a : Addr} {o u : HO} (t : LamX.Tabs T H) (ha : H a = some o) (hc : isCell o = true) : LamX.Tabs T (upd H a u) := fun p hp => by
  obtain ⟨ps, h1, h2, h3⟩ := t p hp
  have hne : ∀ b v, H b = some v → isCell v = false → b ≠ a := fun b v hb hv z => by
    rw [z, ha] at hb
    cases hb
    rw [hc] at hv
    cases hv
  refine ⟨ps, by rw [upd_ne (hne _ _ h1 rfl)]; exact h1, h2, fun pos cv e => ?_⟩
  obtain ⟨c, e1, e2⟩ := h3 pos cv e
  exact ⟨c, e1, by rw [upd_ne (hne _ _ e2 rfl)]; exact e2⟩
/-- what a cell holds stays at a later state -/
theorem ro_ext {ρ ρ' : Map} {S S' : Sto} {H H' : Hp} (e : Ext ρ S H ρ' S' H') (r : Rel C ρ S H) : ∀ {o : IO} {ho : HO}, RO C ρ H o ho → RO C ρ' H' o ho
  | .lst _, _, ⟨us, e1, e4⟩ => ⟨us, e1, RVs.ext e r _ _ e4⟩
  | .dct _, _, ⟨ws, e1, e2, e4⟩ => ⟨ws, e1, e2, RVs.ext e r _ _ e4⟩
/-- a new thing at p that no cell stands for -/
theorem new_any {ρ : Map} {S : Sto} {H : Hp} {p : Addr} (o : HO) (r : Rel C ρ S H) (hp : H p = none) : Ext ρ S H ρ S (upd H p o) ∧ Rel C ρ S (upd H p o) := by
  have e : Ext ρ S H ρ S (upd H p o) := ⟨fun _ _ h => h, fun _ _ h _ => h, fun i a h z => absurd (r.live i a h).1 (Nat.not_lt.mpr z), ⟨0, rfl, rfl⟩, fun b o ho _ _ => by rw [upd_ne (ne_of_none ho hp)]; exact ho,
    fun b hb => by
      by_cases z : b = p
      · rw [z]; exact hp
      · rw [upd_ne z] at hb; exact hb, fun _ _ h => h⟩
  refine ⟨e, ⟨fun i o g => ?_, r.inj, fun i a ha => ?_, tabs_new r.tabs hp⟩⟩
  · obtain ⟨a, ho, e1, e2, e3⟩ := r.obj i o g
    exact ⟨a, ho, e1, by rw [upd_ne (ne_of_none e2 hp)]; exact e2, ro_ext e r e3⟩
  · obtain ⟨h1, ho, h2, h3⟩ := r.live i a ha
    exact ⟨h1, ho, by rw [upd_ne (ne_of_none h2 hp)]; exact h2, h3⟩
/-- a new tuple at p -/
theorem new_tup {ρ : Map} {S : Sto} {H : Hp} {p : Addr} {xs : List IV} {vs : List V} (r : Rel C ρ S H) (hp : H p = none) (h : RVs C ρ H xs vs) : Ext ρ S H ρ S (upd H p (.tup vs)) ∧ Rel C ρ S (upd H p (.tup vs)) ∧ RV C ρ (upd H p (.tup vs)) (.tup xs) (.ref p) := by
  have e : Ext ρ S H ρ S (upd H p (.tup vs)) := ⟨fun _ _ h => h, fun _ _ h _ => h, fun i a h z => absurd (r.live i a h).1 (Nat.not_lt.mpr z), ⟨0, rfl, rfl⟩, fun b o ho _ _ => by rw [upd_ne (ne_of_none ho hp)]; exact ho,
    fun b hb => by
      by_cases z : b = p
      · rw [z]; exact hp
      · rw [upd_ne z] at hb; exact hb, fun _ _ h => h⟩
  refine ⟨e, ⟨fun i o g => ?_, r.inj, fun i a ha => ?_, tabs_new r.tabs hp⟩, ?_⟩
  · obtain ⟨a, ho, e1, e2, e3⟩ := r.obj i o g
    exact ⟨a, ho, e1, by rw [upd_ne (ne_of_none e2 hp)]; exact e2, ro_ext e r e3⟩
  · obtain ⟨h1, ho, h2, h3⟩ := r.live i a ha
    exact ⟨h1, ho, by rw [upd_ne (ne_of_none h2 hp)]; exact h2, h3⟩
  · exact rv_tup.mpr ⟨p, vs, rfl, SqT.of upd_same, RVs.ext e r _ _ h⟩
/-- a new cell at p -/
def Map.new (ρ : Map) (i : Nat) (p : Addr) : Map := fun j => if j = i then some p else ρ j
theorem new_cell {ρ : Map} {S : Sto} {H : Hp} {p : Addr} {io : IO} {ho : HO} (r : Rel C ρ S H) (hp : H p = none) (h : RO C ρ H io ho) (hc : isCell ho = true) :
    Ext ρ S H (ρ.new S.top p) (S.new io) (upd H p ho) ∧ Rel C (ρ.new S.top p) (S.new io) (upd H p ho) ∧ RV C (ρ.new S.top p) (upd H p ho) (.ref S.top) (.ref p) := by
  have lt : ∀ i a, ρ i = some a → i < S.top := fun i a h => (r.live i a h).1
  have at_ : ∀ i, i ≠ S.top → ρ.new S.top p i = ρ i := fun i hi => if_neg hi
  have new_ : ρ.new S.top p S.top = some p := if_pos rfl
  have e : Ext ρ S H (ρ.new S.top p) (S.new io) (upd H p ho) := by
    refine ⟨fun i a h => by rw [at_ i (Nat.ne_of_lt (lt i a h))]; exact h, fun i a h hl => by rw [at_ i (Nat.ne_of_lt hl)] at h; exact h, fun i a h hl => ?_, ⟨1, rfl, rfl⟩, fun b o ho _ _ => by rw [upd_ne (ne_of_none ho hp)]; exact ho, fun b hb => ?_, fun i hl h => ?_⟩
    · by_cases hi : i = S.top
      · rw [hi, new_] at h
        cases h
        exact hp
      · rw [at_ i hi] at h
        exact absurd (lt i a h) (Nat.not_lt.mpr hl)
    · by_cases z : b = p
      · rw [z]; exact hp
      · rw [upd_ne z] at hb; exact hb
    · rw [get_new_ne (Nat.ne_of_lt hl)] at h
      exact h
  refine ⟨e, ⟨fun i o g => ?_, fun i j a hi hj => ?_, fun i a ha => ?_, tabs_new r.tabs hp⟩, rv_ref.mpr ⟨p, new_, rfl⟩⟩
  · by_cases hi : i = S.top
    · rw [hi, get_new] at g
      cases g
      exact ⟨p, _, by rw [hi]; exact new_, upd_same, ro_ext e r h⟩
    · rw [get_new_ne hi] at g
      obtain ⟨a, ho', e1, e2, e3⟩ := r.obj i o g
      exact ⟨a, ho', by rw [at_ i hi]; exact e1, by rw [upd_ne (ne_of_none e2 hp)]; exact e2, ro_ext e r e3⟩
  · have key : ∀ i a, ρ i = some a → a ≠ p := fun i a h => by
      obtain ⟨_, ho1, h2, _⟩ := r.live i a h
      exact ne_of_none h2 hp
    by_cases h1 : i = S.top <;> by_cases h2 : j = S.top
    · rw [h1, h2]
    · rw [h1, new_] at hi
      rw [at_ j h2] at hj
      cases hi
      exact absurd rfl (key j _ hj)
    · rw [h2, new_] at hj
      rw [at_ i h1] at hi
      cases hj
      exact absurd rfl (key i _ hi)
    · rw [at_ i h1] at hi
      rw [at_ j h2] at hj
      exact r.inj i j a hi hj
  · by_cases hi : i = S.top
    · rw [hi, new_] at ha
      cases ha
      exact ⟨by rw [hi]; exact Nat.lt_succ_self _, _, upd_same, hc⟩
    · rw [at_ i hi] at ha
      obtain ⟨h1, ho1, h2, h3⟩ := r.live i a ha
      exact ⟨Nat.lt_succ_of_lt h1, ho1, by rw [upd_ne (ne_of_none h2 hp)]; exact h2, h3⟩
theorem new_lst {ρ : Map} {S : Sto} {H : Hp} {p : Addr} {xs : List IV} {vs : List V} (r : Rel C ρ S H) (hp : H p = none) (h : RVs C ρ H xs vs) :
    Ext ρ S H (ρ.new S.top p) (S.new (.lst xs)) (upd H p (.lst vs)) ∧ Rel C (ρ.new S.top p) (S.new (.lst xs)) (upd H p (.lst vs)) ∧ RV C (ρ.new S.top p) (upd H p (.lst vs)) (.ref S.top) (.ref p) :=
  new_cell r hp ⟨vs, rfl, h⟩ rfl
/-- a cell is written -/
theorem put_cell {ρ : Map} {S : Sto} {H : Hp} {n : Nat} {a : Addr} {o0 io : IO} {h0 ho : HO} (r : Rel C ρ S H) (g : S.get n = some o0) (ha : ρ n = some a) (hH : H a = some h0) (hc0 : isCell h0 = true) (h : RO C ρ H io ho) (hc : isCell ho = true) :
    Ext ρ S H ρ (S.put n io) (upd H a ho) ∧ Rel C ρ (S.put n io) (upd H a ho) := by
  have e : Ext ρ S H ρ (S.put n io) (upd H a ho) := by
    refine ⟨fun _ _ h => h, fun _ _ h _ => h, fun i b h z => absurd (r.live i b h).1 (Nat.not_lt.mpr z), ⟨0, rfl, by simp [Sto.put]⟩, fun b o hb0 ht hn => ?_, fun b hb => ?_, fun i hl hg => ?_⟩
    · have : b ≠ a := fun z => hn n (by rw [g]; simp) (by rw [z]; exact ha)
      rw [upd_ne this]
      exact hb0
    · by_cases z : b = a
      · rw [z, upd_same] at hb
        cases hb
      · rw [upd_ne z] at hb
        exact hb
    · by_cases hi : i = n
      · rw [hi, g]; simp
      · rw [get_put_ne g hi] at hg
        exact hg
  refine ⟨e, ⟨fun i o gi => ?_, r.inj, fun i b hb => ?_, tabs_put r.tabs hH hc0⟩⟩
  · by_cases hi : i = n
    · rw [hi, get_put g] at gi
      cases gi
      exact ⟨a, _, by rw [hi]; exact ha, upd_same, ro_ext e r h⟩
    · rw [get_put_ne g hi] at gi
      obtain ⟨b, ho', e1, e2, e3⟩ := r.obj i o gi
      have nb : b ≠ a := fun z => hi (r.inj i n a (by rw [← z]; exact e1) ha)
      exact ⟨b, ho', e1, by rw [upd_ne nb]; exact e2, ro_ext e r e3⟩
  · obtain ⟨h1, ho', h2, h3⟩ := r.live i b hb
    by_cases z : b = a
    · exact ⟨h1, _, by rw [z]; exact upd_same, hc⟩
    · exact ⟨h1, ho', by rw [upd_ne z]; exact h2, h3⟩
theorem put_lst {ρ : Map} {S : Sto} {H : Hp} {n : Nat} {a : Addr} {xs ys : List IV} {vs ws : List V} (r : Rel C ρ S H) (g : S.get n = some (.lst xs)) (ha : ρ n = some a) (hH : H a = some (.lst vs)) (h : RVs C ρ H ys ws) :
    Ext ρ S H ρ (S.put n (.lst ys)) (upd H a (.lst ws)) ∧ Rel C ρ (S.put n (.lst ys)) (upd H a (.lst ws)) := put_cell r g ha hH rfl ⟨ws, rfl, h⟩ rfl
end
end FX

set_option Elab.async false
set_option linter.all false
set_option maxRecDepth 100000
set_option maxHeartbeats 2000000
set_option autoImplicit false
/-! FX2: operators, tests, arguments, calls, displays, subscripts. -/
namespace FX
open PySem PySem.Spec PyProof.Rows L2
section
variable {X : Cx} {C : Wd} {W : WX}

/-! ### arithmetic -/
def okI (b : Bool) (i : Int) (S : Sto) : R IV := bif b then .ok (.int i) S else .no
theorem okI_pr {b : Bool} {i : Int} {ρ : Map} {S : Sto} {H : Hp} {Q : VK} {W : XK} (r : Rel C ρ S H) (h : PR C (RV C) (okI b i S) ρ S H Q W) : b = true ∧ Q (.int i) H := by
  cases b with
  | false => exact h.elim
  | true => exact ⟨rfl, PR.now (v := IV.int i) h r (rv_int.mpr rfl)⟩
def fullLen (n : Nat) : Bool := Nat.ble n 16777216
theorem fullLen_ok {n : Nat} (h : fullLen n = true) : n ≤ sizeLine := by
  rw [sizeLine_eq]
  exact Nat.le_of_ble_eq_true h
def fAdd : MO := fun a b S => match a, b with
  | .int i, .int j => .ok (.int (i + j)) S
  | .str x, .str y => bif fullLen (x.length + y.length) then .ok (.str (x ++ y)) S else .no
  | .tup xs, .tup ys => bif fullLen (xs.length + ys.length) then .ok (.tup (xs ++ ys)) S else .no
  | .ref n, .ref m => (match S.get n, S.get m with
    | some (.lst xs), some (.lst ys) => bif fullLen (xs.length + ys.length) then .ok (.ref S.top) (S.new (.lst (xs ++ ys))) else .no
    | _, _ => .no)
  | _, _ => .no
def rAddA (K : PySem.W.Frag) : R2 := fun x y H Q => rI0 (fun i j => .int (i + j)) x y H Q ∨ (∃ i j, x = .str i ∧ y = .str j ∧ i.length + j.length ≤ sizeLine ∧ Q (.str (i ++ j)) H) ∨ rCatA K x y H Q ∨ rCat x y H Q
theorem op_addA : OpR X (binaryOp .Add) (rAddA X.K) := op_add.or (op_add_str.or (op_catA.or op_cat))
theorem RVs.nil_iff {ρ : Map} {H : Hp} {xs : List IV} {vs : List V} (h : RVs C ρ H xs vs) : vs = [] ↔ xs = [] := by
  have e := h.length
  constructor
  · intro z
    rw [z] at e
    exact List.length_eq_zero_iff.mp e.symm
  · intro z
    rw [z] at e
    exact List.length_eq_zero_iff.mp e
theorem fAdd_ok : OpF C fAdd (rAddA C.K) := by
  intro ρ S H a b x y Q W r ha hb h
  unfold fAdd at h
  split at h
  · have e1 := rv_int.mp ha
    have e2 := rv_int.mp hb
    exact .inl ⟨_, _, e1, e2, PR.now (v := IV.int _) h r (rv_int.mpr rfl)⟩
  · have e1 := rv_str.mp ha
    have e2 := rv_str.mp hb
    rename_i s t
    cases z : fullLen (s.length + t.length) with
    | false => rw [z] at h; exact h.elim
    | true =>
      rw [z] at h
      exact .inr (.inl ⟨_, _, e1, e2, fullLen_ok z, PR.now (v := IV.str _) h r (rv_str.mpr rfl)⟩)
  · rename_i xs ys
    obtain ⟨p, vs, e1, t1, v1⟩ := rv_tup.mp ha
    obtain ⟨q, ws, e2, t2, v2⟩ := rv_tup.mp hb
    cases z : fullLen (xs.length + ys.length) with
    | false => rw [z] at h; exact h.elim
    | true =>
      rw [z] at h
      refine .inr (.inr (.inl ⟨p, q, vs, ws, e1, e2, t1, t2, by rw [v1.length, v2.length]; exact fullLen_ok z, fun n1 => ?_, fun n1 n2 => ?_, fun n1 n2 u hu => ?_⟩))
      · refine PR.now (v := IV.tup _) h r ?_
        rw [v1.nil_iff.mp n1]
        rw [e2] at hb
        exact hb
      · refine PR.now (v := IV.tup _) h r ?_
        rw [v2.nil_iff.mp n2, List.append_nil]
        rw [e1] at ha
        exact ha
      · obtain ⟨g1, g2, g3⟩ := new_tup (C := C) r hu (v1.append v2)
        exact h _ _ _ g1 g2 g3
  · rename_i n m
    cases e1 : S.get n with
    | none => rw [e1] at h; exact h.elim
    | some o1 =>
      cases o1 with
      | dct kvs => rw [e1] at h; exact h.elim
      | lst xs =>
        cases e2 : S.get m with
        | none => rw [e1, e2] at h; exact h.elim
        | some o2 =>
          cases o2 with
          | dct kvs => rw [e1, e2] at h; exact h.elim
          | lst ys =>
            rw [e1, e2] at h
            have h : PR C (RV C) (bif fullLen (xs.length + ys.length) then R.ok (IV.ref S.top) (S.new (.lst (xs ++ ys))) else .no) ρ S H Q W := h
            obtain ⟨p, vs, _, f1, hp, v1⟩ := cell_at r ha e1
            obtain ⟨q, ws, _, f2, hq, v2⟩ := cell_at r hb e2
            cases z : fullLen (xs.length + ys.length) with
            | false => rw [z] at h; exact h.elim
            | true =>
              rw [z] at h
              refine .inr (.inr (.inr ⟨p, q, vs, ws, f1, f2, hp, hq, by rw [v1.length, v2.length]; exact fullLen_ok z, fun u hu => ?_⟩))
              obtain ⟨g1, g2, g3⟩ := new_lst (C := C) r hu (v1.append v2)
              exact h _ _ _ g1 g2 g3
  · exact h.elim
theorem qe_add {a b : Expr} {ma mb : ME} {pos : Pos} (hK : X.K = C.K) (ha : PE X a (tI C ma W)) (hb : PE X b (tI C mb W)) : PE X (.BinOp a .Add b pos) (tI C (mB fAdd ma mb) W) := qe_op (r := rAddA X.K) op_addA (by rw [hK]; exact fAdd_ok) ha hb

def fSub : MO := fun a b S => match a, b with
  | .int i, .int j => .ok (.int (i - j)) S
  | _, _ => .no
theorem fSub_ok : OpF C fSub (rI0 fun i j => .int (i - j)) := by
  intro ρ S H a b x y Q W r ha hb h
  unfold fSub at h
  split at h
  · exact ⟨_, _, rv_int.mp ha, rv_int.mp hb, PR.now (v := IV.int _) h r (rv_int.mpr rfl)⟩
  · exact h.elim
theorem qe_sub {a b : Expr} {ma mb : ME} {pos : Pos} (ha : PE X a (tI C ma W)) (hb : PE X b (tI C mb W)) : PE X (.BinOp a .Sub b pos) (tI C (mB fSub ma mb) W) := qe_op op_sub fSub_ok ha hb
/-- products of two numbers: together below a million bits -/
def mulFit (i j : Int) : Bool := Nat.blt (i.natAbs.log2 + j.natAbs.log2) 1000000
theorem mulFit_ok {i j : Int} (h : mulFit i j = true) : CMulW i j := Nat.le_of_ble_eq_true h
def repFit (k : Int) (n : Nat) : Bool := decide (-(2 ^ 63) ≤ k) && decide (k < 2 ^ 63) && fullLen (n * k.toNat)
def fMul : MO := fun a b S => match a, b with
  | .int i, .int j => okI (mulFit i j) (i * j) S
  | .ref n, .int k => (match S.get n with
    | some (.lst xs) => bif repFit k xs.length then .ok (.ref S.top) (S.new (.lst (List.replicate k.toNat xs).flatten)) else .no
    | _ => .no)
  | .tup xs, .int k => bif (!xs.isEmpty && decide (2 ≤ k) && decide (k ≤ 1000) && Nat.ble xs.length 1000) then .ok (.tup (List.replicate k.toNat xs).flatten) S else .no
  | _, _ => .no
def rMulA (K : PySem.W.Frag) : R2 := fun x y H Q => rI CMulW (fun i j => .int (i * j)) x y H Q ∨ rRep x y H Q ∨ rRepT K x y H Q
theorem op_mulA : OpR X (binaryOp .Mult) (rMulA X.K) := op_mulW.or (op_rep.or op_repT)
theorem RVs.rep {ρ : Map} {H : Hp} {xs : List IV} {vs : List V} (h : RVs C ρ H xs vs) : ∀ k : Nat, RVs C ρ H (List.replicate k xs).flatten (List.replicate k vs).flatten
  | 0 => rvs_nil.mpr rfl
  | k + 1 => by
    rw [List.replicate_succ, List.replicate_succ, List.flatten_cons, List.flatten_cons]
    exact h.append (RVs.rep h k)
theorem fMul_ok : OpF C fMul (rMulA C.K) := by
  intro ρ S H a b x y Q W r ha hb h
  unfold fMul at h
  split at h
  · rename_i i j
    obtain ⟨h1, h2⟩ := okI_pr r h
    exact .inl ⟨_, _, rv_int.mp ha, rv_int.mp hb, mulFit_ok h1, h2⟩
  · rename_i n k
    split at h
    · rename_i xs e1
      obtain ⟨p, vs, _, f1, hp, v1⟩ := cell_at r ha e1
      cases z : repFit k xs.length with
      | false => rw [z] at h; exact h.elim
      | true =>
        rw [z] at h
        have z' : (decide (-(2 ^ 63) ≤ k) && decide (k < 2 ^ 63) && fullLen (xs.length * k.toNat)) = true := z
        rw [Bool.and_eq_true, Bool.and_eq_true] at z'
        obtain ⟨⟨z1, z2⟩, z3⟩ := z'
        refine .inr (.inl ⟨p, k, vs, f1, rv_int.mp hb, hp, of_decide_eq_true z1, of_decide_eq_true z2, by rw [v1.length]; exact fullLen_ok z3, fun u hu => ?_⟩)
        obtain ⟨g1, g2, g3⟩ := new_lst (C := C) r hu (v1.rep k.toNat)
        exact h _ _ _ g1 g2 g3
    · exact h.elim
  · rename_i xs k
    obtain ⟨p, vs, e1, t1, v1⟩ := rv_tup.mp ha
    cases z : (!xs.isEmpty && decide (2 ≤ k) && decide (k ≤ 1000) && Nat.ble xs.length 1000) with
    | false => rw [z] at h; exact h.elim
    | true =>
      rw [z] at h
      rw [Bool.and_eq_true, Bool.and_eq_true, Bool.and_eq_true] at z
      obtain ⟨⟨⟨z1, z2⟩, z3⟩, z4⟩ := z
      refine .inr (.inr ⟨p, k, vs, e1, rv_int.mp hb, t1, fun n => ?_, of_decide_eq_true z2, of_decide_eq_true z3, by rw [v1.length]; exact Nat.le_of_ble_eq_true z4, fun u hu => ?_⟩)
      · rw [v1.nil_iff.mp n] at z1
        cases z1
      · obtain ⟨g1, g2, g3⟩ := new_tup (C := C) r hu (v1.rep k.toNat)
        exact h _ _ _ g1 g2 g3
  · exact h.elim
theorem qe_mul {a b : Expr} {ma mb : ME} {pos : Pos} (hK : X.K = C.K) (ha : PE X a (tI C ma W)) (hb : PE X b (tI C mb W)) : PE X (.BinOp a .Mult b pos) (tI C (mB fMul ma mb) W) := qe_op (r := rMulA X.K) op_mulA (by rw [hK]; exact fMul_ok) ha hb
/-- //: a positive divisor of at most 9000 bits, or a small negative one -/
def divFit (j : Int) : Bool := decide (0 < j) && Nat.blt j.natAbs.log2 9000
def divFitN (j : Int) : Bool := decide (j < 0) && Nat.blt j.natAbs 1073741824
def fDiv : MO := fun a b S => match a, b with
  | .int i, .int j => bif divFit j then .ok (.int (i / j)) S else okI (divFitN j) (i.fdiv j) S
  | _, _ => .no
def rDivA : R2 := fun x y H Q => rI CDivW (fun i j => .int (i / j)) x y H Q ∨ rI CDivN (fun i j => .int (i.fdiv j)) x y H Q
theorem op_divA : OpR X (binaryOp .FloorDiv) rDivA := op_fdivW.or op_fdivN
theorem fDiv_ok : OpF C fDiv rDivA := by
  intro ρ S H a b x y Q W r ha hb h
  unfold fDiv at h
  split at h
  · rename_i i j
    cases z : divFit j with
    | true =>
      rw [z] at h
      have z' : (decide (0 < j) && Nat.blt j.natAbs.log2 9000) = true := z
      rw [Bool.and_eq_true] at z'
      exact .inl ⟨_, _, rv_int.mp ha, rv_int.mp hb, ⟨of_decide_eq_true z'.1, Nat.le_of_ble_eq_true z'.2⟩, PR.now (v := IV.int _) h r (rv_int.mpr rfl)⟩
    | false =>
      rw [z] at h
      obtain ⟨h1, h2⟩ := okI_pr r h
      have h1' : (decide (j < 0) && Nat.blt j.natAbs 1073741824) = true := h1
      rw [Bool.and_eq_true] at h1'
      exact .inr ⟨_, _, rv_int.mp ha, rv_int.mp hb, ⟨Int.ne_of_lt (of_decide_eq_true h1'.1), Nat.le_of_ble_eq_true h1'.2⟩, h2⟩
  · exact h.elim
theorem qe_div {a b : Expr} {ma mb : ME} {pos : Pos} (ha : PE X a (tI C ma W)) (hb : PE X b (tI C mb W)) : PE X (.BinOp a .FloorDiv b pos) (tI C (mB fDiv ma mb) W) := qe_op op_divA fDiv_ok ha hb
def fMod : MO := fun a b S => match a, b with
  | .int i, .int j => okI (!decide (j = 0)) (i.fmod j) S
  | _, _ => .no
theorem fMod_ok : OpF C fMod (rI (fun _ j => j ≠ 0) fun i j => .int (i.fmod j)) := by
  intro ρ S H a b x y Q W r ha hb h
  unfold fMod at h
  split at h
  · rename_i i j
    obtain ⟨h1, h2⟩ := okI_pr r h
    rw [Bool.not_eq_true'] at h1
    exact ⟨_, _, rv_int.mp ha, rv_int.mp hb, of_decide_eq_false h1, h2⟩
  · exact h.elim
theorem qe_mod {a b : Expr} {ma mb : ME} {pos : Pos} (ha : PE X a (tI C ma W)) (hb : PE X b (tI C mb W)) : PE X (.BinOp a .Mod b pos) (tI C (mB fMod ma mb) W) := qe_op op_modN fMod_ok ha hb
def powFit (i j : Int) : Bool := decide (0 ≤ j) && decide ((Builtin.Int.intBits i : Int) * j ≤ 2 ^ 27)
theorem op_powA : OpR X (binaryOp .Pow) (rI (fun i j => powFit i j = true) fun i j => .int (i ^ j.toNat)) := opI fun _ _ _ _ _ _ _ hc q => by
  have hc' : (decide _ && decide _) = true := hc
  rw [Bool.and_eq_true] at hc'
  exact pow_int (of_decide_eq_true hc'.1) (of_decide_eq_true hc'.2) q
def fPow : MO := fun a b S => match a, b with
  | .int i, .int j => okI (powFit i j) (i ^ j.toNat) S
  | _, _ => .no
theorem fPow_ok : OpF C fPow (rI (fun i j => powFit i j = true) fun i j => .int (i ^ j.toNat)) := by
  intro ρ S H a b x y Q W r ha hb h
  unfold fPow at h
  split at h
  · obtain ⟨h1, h2⟩ := okI_pr r h
    exact ⟨_, _, rv_int.mp ha, rv_int.mp hb, h1, h2⟩
  · exact h.elim
theorem qe_pow {a b : Expr} {ma mb : ME} {pos : Pos} (ha : PE X a (tI C ma W)) (hb : PE X b (tI C mb W)) : PE X (.BinOp a .Pow b pos) (tI C (mB fPow ma mb) W) := qe_op op_powA fPow_ok ha hb
def mU (f : IV → Sto → R IV) (ma : ME) : ME := fun E S => (ma E S).bind f
def fNeg : IV → Sto → R IV := fun a S => match a with
  | .int i => .ok (.int (-i)) S
  | _ => .no
theorem qe_neg {a : Expr} {ma : ME} {pos : Pos} (ha : PE X a (tI C ma W)) : PE X (.UnaryOp .USub a pos) (tI C (mU fNeg ma) W) := by
  refine pe_mono (pe_un un_neg ha) fun σ H Q ⟨ρ, E, S, q, r0, h⟩ => ?_
  refine ⟨ρ, E, S, q, r0, PR.mono (PR.bind (rel := RV C) h) (fun x H1 ⟨ρ1, a, S1, e1, r1, x1, h1⟩ => ?_) fun _ _ _ z => z⟩
  unfold fNeg at h1
  split at h1
  · exact ⟨_, rv_int.mp x1, PR.now (v := IV.int _) h1 r1 (rv_int.mpr rfl)⟩
  · exact h1.elim
end
end FX

set_option Elab.async false
set_option linter.all false
set_option maxRecDepth 100000
set_option maxHeartbeats 2000000
set_option autoImplicit false
/-! FX3: comparisons, tests, arguments, displays, subscripts. -/
namespace FX
open PySem PySem.Spec PyProof.Rows L2
section
variable {X : Cx} {C : Wd} {W : WX}

/-! ### values as data -/
mutual
def toD (S : Sto) : Nat → IV → Option PyData
  | 0, _ => none
  | _ + 1, .non => some .none
  | _ + 1, .bl b => some (.bool b)
  | _ + 1, .int i => some (.int i)
  | _ + 1, .str x => some (.str x)
  | n + 1, .tup xs => (toDs S n xs).map .tuple
  | n + 1, .ref k => match S.get k with
    | some (.lst xs) => (toDs S n xs).map .list
    | _ => none
  | _ + 1, .glo _ => none
  | _ + 1, .frz _ => none
  | _ + 1, .ty _ => none
def toDs (S : Sto) : Nat → List IV → Option (List PyData)
  | 0, _ => none
  | _ + 1, [] => some []
  | n + 1, x :: xs => match toD S n x with
    | some d => (match toDs S n xs with
      | some ds => some (d :: ds)
      | none => none)
    | none => none
end

mutual
theorem toD_ok {ρ : Map} {S : Sto} {H : Hp} (r : Rel C ρ S H) : ∀ (n : Nat) (x : IV) (v : V) (d : PyData), toD S n x = some d → RV C ρ H x v → Dp C.K H v d
  | 0, _, _, _, h, _ => by unfold toD at h; cases h
  | n + 1, .non, v, d, h, hv => by
    unfold toD at h; cases h
    rw [rv_non.mp hv]; exact .non
  | n + 1, .bl b, v, d, h, hv => by
    unfold toD at h; cases h
    rw [rv_bl.mp hv]; exact .bl b
  | n + 1, .int b, v, d, h, hv => by
    unfold toD at h; cases h
    rw [rv_int.mp hv]; exact .int b
  | n + 1, .str b, v, d, h, hv => by
    unfold toD at h; cases h
    rw [rv_str.mp hv]; exact .str b
  | n + 1, .tup xs, v, d, h, hv => by
    unfold toD at h
    obtain ⟨ds, h1, rfl⟩ := Option.map_eq_some_iff.mp h
    obtain ⟨a, vs, rfl, h2, h3⟩ := rv_tup.mp hv
    exact .tup h2 (toDs_ok r n xs vs ds h1 h3)
  | n + 1, .ref k, v, d, h, hv => by
    unfold toD at h
    cases g : S.get k with
    | none => rw [g] at h; cases h
    | some o =>
      cases o with
      | dct kvs => rw [g] at h; cases h
      | lst xs =>
        rw [g] at h
        obtain ⟨ds, h1, rfl⟩ := Option.map_eq_some_iff.mp h
        obtain ⟨a, vs, _, rfl, h2, h3⟩ := cell_at r hv g
        exact .lst (SqL.of h2) (toDs_ok r n xs vs ds h1 h3)
  | n + 1, .glo b, v, d, h, hv => by unfold toD at h; cases h
  | n + 1, .frz b, v, d, h, hv => by unfold toD at h; cases h
  | n + 1, .ty b, v, d, h, hv => by unfold toD at h; cases h
theorem toDs_ok {ρ : Map} {S : Sto} {H : Hp} (r : Rel C ρ S H) : ∀ (n : Nat) (xs : List IV) (vs : List V) (ds : List PyData), toDs S n xs = some ds → RVs C ρ H xs vs → DpAll C.K H vs ds
  | 0, _, _, _, h, _ => by unfold toDs at h; cases h
  | n + 1, [], vs, ds, h, hv => by
    unfold toDs at h; cases h
    rw [rvs_nil.mp hv]; exact .nil
  | n + 1, x :: xs, vs, ds, h, hv => by
    unfold toDs at h
    obtain ⟨v, q, rfl, h1, h2⟩ := rvs_cons.mp hv
    cases e1 : toD S n x with
    | none => rw [e1] at h; cases h
    | some d =>
      cases e2 : toDs S n xs with
      | none => rw [e1, e2] at h; cases h
      | some es =>
        rw [e1, e2] at h
        cases h
        exact .cons (toD_ok r n x v d e1 h1) (toDs_ok r n xs q es e2 h2)
end
def fuelD : Nat := 1000000
def dataOf (S : Sto) (x : IV) : Option PyData := match toD S fuelD x with
  | some d => bif SeqAt.shaped d then some d else none
  | none => none
theorem dataOf_ok {ρ : Map} {S : Sto} {H : Hp} {x : IV} {v : V} {d : PyData} (r : Rel C ρ S H) (h : dataOf S x = some d) (hv : RV C ρ H x v) : Dp C.K H v d ∧ SeqAt.shaped d = true := by
  unfold dataOf at h
  cases e : toD S fuelD x with
  | none => rw [e] at h; cases h
  | some d' =>
    rw [e] at h
    cases z : SeqAt.shaped d' with
    | false => simp [z] at h
    | true =>
      simp [z] at h
      subst h
      exact ⟨toD_ok r _ x v d' e hv, z⟩

/-! ### comparisons -/
def fCmpI (p : Int → Int → Bool) : MO := fun a b S => match a, b with
  | .int i, .int j => .ok (.bl (p i j)) S
  | _, _ => .no
theorem fCmpI_ok (p : Int → Int → Bool) : OpF C (fCmpI p) (rI0 fun i j => .bl (p i j)) := by
  intro ρ S H a b x y Q W r ha hb h
  unfold fCmpI at h
  split at h
  · exact ⟨_, _, rv_int.mp ha, rv_int.mp hb, PR.now (v := IV.bl _) h r (rv_bl.mpr rfl)⟩
  · exact h.elim
abbrev fLt : MO := fCmpI fun i j => decide (i < j)
abbrev fLe : MO := fCmpI fun i j => decide (i ≤ j)
abbrev fGt : MO := fCmpI fun i j => decide (j < i)
abbrev fGe : MO := fCmpI fun i j => decide (j ≤ i)
def rEqA (K : PySem.W.Frag) : R2 := fun x y H Q => rEq x y H Q ∨ rEqD K x y H Q
def rNeA (K : PySem.W.Frag) : R2 := fun x y H Q => rNe x y H Q ∨ rNeD K x y H Q
theorem op_eqA (hu : X.A.units + 64 < cLine) : OpR X (compareOp .Eq) (rEqA X.K) := op_eq.or (op_eqD hu)
theorem op_neA (hu : X.A.units + 64 < cLine) : OpR X (compareOp .NotEq) (rNeA X.K) := op_ne.or (op_neD hu)
def eqIV (S : Sto) (a b : IV) : Option Bool := match a, b with
  | .int i, .int j => some (decide (i = j))
  | a, b => match dataOf S a, dataOf S b with
    | some d, some e => some (PyData.eqv d e)
    | _, _ => none
def fEq : MO := fun a b S => match eqIV S a b with
  | some c => .ok (.bl c) S
  | none => .no
def fNe : MO := fun a b S => match eqIV S a b with
  | some c => .ok (.bl (!c)) S
  | none => .no
theorem eqIV_ok {ρ : Map} {S : Sto} {H : Hp} {a b : IV} {x y : V} {c : Bool} (r : Rel C ρ S H) (ha : RV C ρ H a x) (hb : RV C ρ H b y) (h : eqIV S a b = some c) :
    (scal x y = true ∧ c = decide (x = y)) ∨ ∃ d e, Dp C.K H x d ∧ Dp C.K H y e ∧ SeqAt.shaped d = true ∧ SeqAt.shaped e = true ∧ c = PyData.eqv d e := by
  unfold eqIV at h
  split at h
  · rename_i i j
    have e1 := rv_int.mp ha
    have e2 := rv_int.mp hb
    subst e1 e2
    refine .inl ⟨rfl, ?_⟩
    have h := Option.some.inj h
    rw [← h, dec_int]
    exact (Bool.beq_eq_decide_eq i j).symm
  · split at h
    · rename_i d e h1 h2
      obtain ⟨p1, p2⟩ := dataOf_ok r h1 ha
      obtain ⟨q1, q2⟩ := dataOf_ok r h2 hb
      exact .inr ⟨d, e, p1, q1, p2, q2, (Option.some.inj h).symm⟩
    · cases h
theorem fEq_ok : OpF C fEq (rEqA C.K) := by
  intro ρ S H a b x y Q W r ha hb h
  unfold fEq at h
  cases e : eqIV S a b with
  | none => rw [e] at h; exact h.elim
  | some c =>
    rw [e] at h
    have q : Q (.bl c) H := PR.now (v := IV.bl _) h r (rv_bl.mpr rfl)
    rcases eqIV_ok r ha hb e with ⟨h1, h2⟩ | ⟨d, e, h1, h2, h3, h4, h5⟩
    · rw [h2] at q
      exact .inl ⟨h1, q⟩
    · rw [h5] at q
      exact .inr ⟨d, e, h1, h2, h3, h4, q⟩
theorem fNe_ok : OpF C fNe (rNeA C.K) := by
  intro ρ S H a b x y Q W r ha hb h
  unfold fNe at h
  cases e : eqIV S a b with
  | none => rw [e] at h; exact h.elim
  | some c =>
    rw [e] at h
    have q : Q (.bl (!c)) H := PR.now (v := IV.bl _) h r (rv_bl.mpr rfl)
    rcases eqIV_ok r ha hb e with ⟨h1, h2⟩ | ⟨d, e, h1, h2, h3, h4, h5⟩
    · rw [h2] at q
      exact .inl ⟨h1, q⟩
    · rw [h5] at q
      exact .inr ⟨d, e, h1, h2, h3, h4, q⟩
/-- x in xs: flat things, or any data in a list -/
def flatI : IV → Bool
  | .non => true
  | .bl _ => true
  | .int _ => true
  | .str _ => true
  | _ => false
def toVf : IV → V
  | .bl b => .bl b
  | .int i => .int i
  | .str s => .str s
  | _ => .non
theorem flat_rv {ρ : Map} {H : Hp} {x : IV} {v : V} (f : flatI x = true) (h : RV C ρ H x v) : v = toVf x ∧ flatV v = true := by
  cases x with
  | non => rw [rv_non.mp h]; exact ⟨rfl, rfl⟩
  | bl b => rw [rv_bl.mp h]; exact ⟨rfl, rfl⟩
  | int b => rw [rv_int.mp h]; exact ⟨rfl, rfl⟩
  | str b => rw [rv_str.mp h]; exact ⟨rfl, rfl⟩
  | _ => cases f
theorem flat_rvs {ρ : Map} {H : Hp} : ∀ {xs : List IV} {vs : List V}, xs.all flatI = true → RVs C ρ H xs vs → vs = xs.map toVf ∧ vs.all flatV = true
  | [], vs, _, h => by rw [rvs_nil.mp h]; exact ⟨rfl, rfl⟩
  | x :: xs, vs, f, h => by
    obtain ⟨v, q, rfl, h1, h2⟩ := rvs_cons.mp h
    rw [List.all_cons, Bool.and_eq_true] at f
    obtain ⟨e1, f1⟩ := flat_rv f.1 h1
    obtain ⟨e2, f2⟩ := flat_rvs f.2 h2
    exact ⟨by rw [e1, e2]; rfl, by rw [List.all_cons, f1, f2]; rfl⟩
def itemsOf (S : Sto) : IV → Option (List IV)
  | .tup xs => some xs
  | .frz xs => some xs
  | .ref n => match S.get n with
    | some (.lst xs) => some xs
    | _ => none
  | _ => none
theorem itemsOf_ok {ρ : Map} {S : Sto} {H : Hp} {x : IV} {v : V} {xs : List IV} (r : Rel C ρ S H) (h : itemsOf S x = some xs) (hv : RV C ρ H x v) : ∃ a vs, v = .ref a ∧ (SqL C.K H a vs ∨ SqT C.K H a vs) ∧ RVs C ρ H xs vs := by
  cases x with
  | tup ys =>
    cases h
    obtain ⟨a, vs, e, t, q⟩ := rv_tup.mp hv
    exact ⟨a, vs, e, .inr t, q⟩
  | frz ys =>
    cases h
    obtain ⟨a, vs, e, t, q⟩ := rv_frz.mp hv
    exact ⟨a, vs, e, .inl t.sq, q⟩
  | ref n =>
    unfold itemsOf at h
    dsimp only at h
    cases g : S.get n with
    | none => rw [g] at h; cases h
    | some o =>
      cases o with
      | dct kvs => rw [g] at h; cases h
      | lst ys =>
        rw [g] at h
        cases h
        obtain ⟨a, vs, _, e, t, q⟩ := cell_at r hv g
        exact ⟨a, vs, e, .inl (SqL.of t), q⟩
  | _ => cases h
def inIV (S : Sto) (a b : IV) : Option Bool := match itemsOf S b with
  | none => none
  | some xs => bif (flatI a && xs.all flatI) then some (inV (toVf a) (xs.map toVf)) else match b, dataOf S a, dataOf S b with
    | .ref _, some d, some (.list ds) => some (ds.any fun z => PyData.eqv z d)
    | _, _, _ => none
def rInA (K : PySem.W.Frag) : R2 := fun x y H Q => rIn K false x y H Q ∨ rInD K x y H Q
def rNotInA (K : PySem.W.Frag) : R2 := fun x y H Q => rIn K true x y H Q ∨ rNotInD K x y H Q
theorem op_inA (hu : X.A.units + 65 < cLine) : OpR X (compareOp .In) (rInA X.K) := op_in_seq.or (op_inD hu)
theorem op_notInA (hu : X.A.units + 65 < cLine) : OpR X (compareOp .NotIn) (rNotInA X.K) := op_notIn_seq.or (op_notInD hu)
theorem inIV_ok {ρ : Map} {S : Sto} {H : Hp} {a b : IV} {x y : V} {c : Bool} (r : Rel C ρ S H) (ha : RV C ρ H a x) (hb : RV C ρ H b y) (h : inIV S a b = some c) :
    (∃ p xs, y = .ref p ∧ (SqL C.K H p xs ∨ SqT C.K H p xs) ∧ flatV x = true ∧ xs.all flatV = true ∧ c = inV x xs) ∨
      ∃ d ds, Dp C.K H x d ∧ Dp C.K H y (.list ds) ∧ SeqAt.shaped d = true ∧ SeqAt.shaped (.list ds) = true ∧ c = ds.any fun z => PyData.eqv z d := by
  unfold inIV at h
  cases e : itemsOf S b with
  | none => rw [e] at h; cases h
  | some xs =>
    rw [e] at h
    obtain ⟨p, vs, e1, t, q⟩ := itemsOf_ok r e hb
    cases z : (flatI a && xs.all flatI) with
    | true =>
      simp only [z, cond_true] at h
      rw [Bool.and_eq_true] at z
      obtain ⟨f1, f2⟩ := flat_rv z.1 ha
      obtain ⟨g1, g2⟩ := flat_rvs z.2 q
      refine .inl ⟨p, vs, e1, t, f2, g2, ?_⟩
      rw [g1, f1]
      exact (Option.some.inj h).symm
    | false =>
      simp only [z, cond_false] at h
      split at h
      · rename_i n d ds h1 h2
        obtain ⟨p1, p2⟩ := dataOf_ok r h1 ha
        obtain ⟨q1, q2⟩ := dataOf_ok r h2 hb
        exact .inr ⟨d, ds, p1, q1, p2, q2, (Option.some.inj h).symm⟩
      · cases h
def fIn : MO := fun a b S => match inIV S a b with
  | some c => .ok (.bl c) S
  | none => .no
def fNotIn : MO := fun a b S => match inIV S a b with
  | some c => .ok (.bl (!c)) S
  | none => .no
theorem fIn_ok : OpF C fIn (rInA C.K) := by
  intro ρ S H a b x y Q W r ha hb h
  unfold fIn at h
  cases e : inIV S a b with
  | none => rw [e] at h; exact h.elim
  | some c =>
    rw [e] at h
    have q : Q (.bl c) H := PR.now (v := IV.bl _) h r (rv_bl.mpr rfl)
    rcases inIV_ok r ha hb e with ⟨p, xs, h1, h2, h3, h4, h5⟩ | ⟨d, ds, h1, h2, h3, h4, h5⟩
    · rw [h5] at q
      exact .inl ⟨p, xs, h1, h2, h3, h4, q⟩
    · rw [h5] at q
      exact .inr ⟨d, ds, h1, h2, h3, h4, q⟩
theorem fNotIn_ok : OpF C fNotIn (rNotInA C.K) := by
  intro ρ S H a b x y Q W r ha hb h
  unfold fNotIn at h
  cases e : inIV S a b with
  | none => rw [e] at h; exact h.elim
  | some c =>
    rw [e] at h
    have q : Q (.bl (!c)) H := PR.now (v := IV.bl _) h r (rv_bl.mpr rfl)
    rcases inIV_ok r ha hb e with ⟨p, xs, h1, h2, h3, h4, h5⟩ | ⟨d, ds, h1, h2, h3, h4, h5⟩
    · rw [h5] at q
      exact .inl ⟨p, xs, h1, h2, h3, h4, q⟩
    · rw [h5] at q
      exact .inr ⟨d, ds, h1, h2, h3, h4, q⟩
/-- is None -/
def isNon : IV → Bool
  | .non => true
  | _ => false
def fIsN : MO := fun a b S => match b with
  | .non => .ok (.bl (isNon a)) S
  | _ => .no
def fNotN : MO := fun a b S => match b with
  | .non => .ok (.bl (!isNon a)) S
  | _ => .no
theorem isNon_ok {ρ : Map} {H : Hp} {a : IV} {x : V} (h : RV C ρ H a x) : decide (x = .non) = isNon a := by
  cases a with
  | non => rw [rv_non.mp h]; rfl
  | bl _ => rw [rv_bl.mp h]; rfl
  | int _ => rw [rv_int.mp h]; rfl
  | str _ => rw [rv_str.mp h]; rfl
  | glo _ => rw [rv_glo.mp h]; rfl
  | ty _ => rw [rv_ty.mp h]; rfl
  | ref _ => obtain ⟨_, _, e⟩ := rv_ref.mp h; rw [e]; rfl
  | tup _ => obtain ⟨_, _, e, _⟩ := rv_tup.mp h; rw [e]; rfl
  | frz _ => obtain ⟨_, _, e, _⟩ := rv_frz.mp h; rw [e]; rfl
theorem fIsN_ok : OpF C fIsN (fun x y H Q => y = .non ∧ Q (.bl (decide (x = .non))) H) := by
  intro ρ S H a b x y Q W r ha hb h
  unfold fIsN at h
  split at h
  · refine ⟨rv_non.mp hb, ?_⟩
    rw [isNon_ok ha]
    exact PR.now (v := IV.bl _) h r (rv_bl.mpr rfl)
  · exact h.elim
theorem fNotN_ok : OpF C fNotN (fun x y H Q => y = .non ∧ Q (.bl (!decide (x = .non))) H) := by
  intro ρ S H a b x y Q W r ha hb h
  unfold fNotN at h
  split at h
  · refine ⟨rv_non.mp hb, ?_⟩
    rw [isNon_ok ha]
    exact PR.now (v := IV.bl _) h r (rv_bl.mpr rfl)
  · exact h.elim

/-! ### comparisons as values and tests -/
theorem qe_cmp {a b : Expr} {ma mb : ME} {op : CmpOp} {r : R2} {f : MO} {pos : Pos} (ho : OpR X (compareOp op) r) (hf : OpF C f r) (ha : PE X a (tI C ma W)) (hb : PE X b (tI C mb W)) (hm : behindInMarks op b = false) : PE X (.Compare a [op] [b] pos) (tI C (mB f ma mb) W) :=
  pe_mono (pe_cmpR ho ha hb hm) fun _ _ _ h => two_mono hf h
/-- a truth value as a test -/
def mTB (m : ME) : MT := fun E S => (m E S).bind fun v S1 => match v with
  | .bl b => .ok b S1
  | _ => .no
theorem tb_mono {m : ME} {σ : L2.St} {H : Hp} {Q : Bool → Hp → Prop} (h : tT C (mTB m) W σ H Q) : tTest (tI C m W) σ H Q := by
  obtain ⟨ρ, E, S, q, r0, h⟩ := h
  refine ⟨ρ, E, S, q, r0, PR.mono (PR.bind (rel := RV C) h) (fun x H1 ⟨ρ1, a, S1, e1, r1, x1, h1⟩ => ?_) fun _ _ _ z => z⟩
  split at h1
  · exact ⟨_, rv_bl.mp x1, PR.now (rel := relB) h1 r1 rfl⟩
  · exact h1.elim
theorem qt_cmp {a b : Expr} {ma mb : ME} {op : CmpOp} {r : R2} {f : MO} {pos : Pos} (ho : OpR X (compareOp op) r) (hf : OpF C f r) (ha : PE X a (tI C ma W)) (hb : PE X b (tI C mb W)) (hm : behindInMarks op b = false) : PT X (.Compare a [op] [b] pos) (tT C (mTB (mB f ma mb)) W) :=
  pt_mono (pt_cmpR ho ha hb hm) fun σ H Q h => by
    obtain ⟨ρ, E, S, q, r0, h⟩ := h
    refine two_mono (C := C) (W := W) hf ⟨ρ, E, S, q, r0, PR.mono (PR.bind (rel := RV C) h) (fun x H1 ⟨ρ1, a, S1, e1, r1, x1, h1⟩ => ?_) fun _ _ _ z => z⟩
    split at h1
    · exact ⟨_, rv_bl.mp x1, PR.now (rel := relB) h1 r1 rfl⟩
    · exact h1.elim
theorem qt_val {e : Expr} {m : ME} (h : PE X e (tI C m W)) (he : ∀ whole, isTrue e X.env whole = (do let v ← whole; standAt e.pos; holding [v] (truthy v)) := by intro _; rfl) : PT X e (tT C (mTB m) W) :=
  pt_mono (pt_val h he) fun _ _ _ h => tb_mono h
/-- truth of any value -/
def truI (S : Sto) : IV → Option Bool
  | .non => some false
  | .bl b => some b
  | .int i => some (i != 0)
  | .tup xs => some (!xs.isEmpty)
  | .ref n => (match S.get n with
    | some (.lst xs) => some (!xs.isEmpty)
    | _ => none)
  | _ => none
def mTru (m : ME) : MT := fun E S => (m E S).bind fun v S1 => match truI S1 v with
  | some b => .ok b S1
  | none => .no
theorem RVs.isEmpty {ρ : Map} {H : Hp} {xs : List IV} {vs : List V} (h : RVs C ρ H xs vs) : vs.isEmpty = xs.isEmpty := by
  cases xs with
  | nil => rw [rvs_nil.mp h]; rfl
  | cons x xs => obtain ⟨v, q, rfl, _⟩ := rvs_cons.mp h; rfl
theorem qt_truth {e : Expr} {m : ME} (hK : X.K = C.K) (h : PE X e (tI C m W)) (he : ∀ whole, isTrue e X.env whole = (do let v ← whole; standAt e.pos; holding [v] (truthy v)) := by intro _; rfl) : PT X e (tT C (mTru m) W) :=
  pt_mono (pt_truth h he) fun σ H Q h => by
    obtain ⟨ρ, E, S, q, r0, h⟩ := h
    refine ⟨ρ, E, S, q, r0, PR.mono (PR.bind (rel := RV C) h) (fun x H1 ⟨ρ1, a, S1, e1, r1, x1, h1⟩ => ?_) fun _ _ _ z => z⟩
    rw [hK]
    cases z : truI S1 a with
    | none => rw [z] at h1; exact h1.elim
    | some b =>
      rw [z] at h1
      refine ⟨b, ?_, PR.now (rel := relB) h1 r1 rfl⟩
      cases a with
      | non => cases z; rw [rv_non.mp x1]; rfl
      | bl _ => cases z; rw [rv_bl.mp x1]; rfl
      | int _ => cases z; rw [rv_int.mp x1]; rfl
      | tup xs =>
        cases z
        obtain ⟨a, vs, e, t, v⟩ := rv_tup.mp x1
        rw [e]
        exact .inr (.inl ⟨vs, t, by rw [v.isEmpty]⟩)
      | ref n =>
        unfold truI at z
        dsimp only at z
        cases g : S1.get n with
        | none => rw [g] at z; cases z
        | some o =>
          cases o with
          | dct kvs => rw [g] at z; cases z
          | lst xs =>
            rw [g] at z
            cases z
            obtain ⟨a, vs, _, e, t, v⟩ := cell_at r1 x1 g
            rw [e]
            exact .inl ⟨vs, SqL.of t, by rw [v.isEmpty]⟩
      | _ => cases z
def mAndT (t u : MT) : MT := fun E S => (t E S).bind fun b S1 => bif b then u E S1 else .ok false S1
def mOrT (t u : MT) : MT := fun E S => (t E S).bind fun b S1 => bif b then .ok true S1 else u E S1
def mNotT (t : MT) : MT := fun E S => (t E S).bind fun b S1 => .ok (!b) S1
theorem qw_and1 {a : Expr} {t : MT} {pos : Pos} (ha : PT X a (tT C t W)) : PW X (.BoolOp .And [a] pos) (tT C t W) := pw_and1 ha
theorem qw_or1 {a : Expr} {t : MT} {pos : Pos} (ha : PT X a (tT C t W)) : PW X (.BoolOp .Or [a] pos) (tT C t W) := pw_or1 ha
theorem qw_and {a b : Expr} {rest : List Expr} {t u : MT} {pos : Pos} (ha : PT X a (tT C t W)) (hb : PW X (.BoolOp .And (b :: rest) pos) (tT C u W)) : PW X (.BoolOp .And (a :: b :: rest) pos) (tT C (mAndT t u) W) :=
  pw_mono (pw_and ha hb) fun σ H Q h => by
    obtain ⟨ρ, E, S, q, r0, h⟩ := h
    refine ⟨ρ, E, S, q, r0, PR.mono (PR.bind (rel := relB) h) (fun x H1 ⟨ρ1, a, S1, e1, r1, x1, h1⟩ => ?_) fun _ _ _ z => z⟩
    cases x1
    cases x with
    | true => exact ⟨ρ1, E, S1, q.ext e1 r0, r1, h1⟩
    | false => exact PR.now (rel := relB) h1 r1 rfl
theorem qw_or {a b : Expr} {rest : List Expr} {t u : MT} {pos : Pos} (ha : PT X a (tT C t W)) (hb : PW X (.BoolOp .Or (b :: rest) pos) (tT C u W)) : PW X (.BoolOp .Or (a :: b :: rest) pos) (tT C (mOrT t u) W) :=
  pw_mono (pw_or ha hb) fun σ H Q h => by
    obtain ⟨ρ, E, S, q, r0, h⟩ := h
    refine ⟨ρ, E, S, q, r0, PR.mono (PR.bind (rel := relB) h) (fun x H1 ⟨ρ1, a, S1, e1, r1, x1, h1⟩ => ?_) fun _ _ _ z => z⟩
    cases x1
    cases x with
    | false => exact ⟨ρ1, E, S1, q.ext e1 r0, r1, h1⟩
    | true => exact PR.now (rel := relB) h1 r1 rfl
theorem qt_w {e : Expr} {t : MT} (h : PW X e (tT C t W)) : PT X e (tT C t W) := h.pt
theorem qt_not {a : Expr} {t : MT} {pos : Pos} (ha : PT X a (tT C t W)) : PT X (.UnaryOp .Not a pos) (tT C (mNotT t) W) :=
  pt_mono (pt_not ha) fun σ H Q h => by
    obtain ⟨ρ, E, S, q, r0, h⟩ := h
    refine ⟨ρ, E, S, q, r0, PR.mono (PR.bind (rel := relB) h) (fun x H1 ⟨ρ1, a, S1, e1, r1, x1, h1⟩ => ?_) fun _ _ _ z => z⟩
    cases x1
    exact PR.now (rel := relB) h1 r1 rfl
/-- and, or, not as values -/
def mAndV (ma mb : ME) : ME := fun E S => (ma E S).bind fun v S1 => match v with
  | .bl true => mb E S1
  | .bl false => .ok (.bl false) S1
  | _ => .no
def mOrV (ma mb : ME) : ME := fun E S => (ma E S).bind fun v S1 => match v with
  | .bl false => mb E S1
  | .bl true => .ok (.bl true) S1
  | _ => .no
def fNotV : IV → Sto → R IV := fun v S => match v with
  | .bl b => .ok (.bl (!b)) S
  | _ => .no
theorem qe_one {op} {a : Expr} {m : ME} {pos : Pos} (h : PE X a (tI C m W)) : PE X (.BoolOp op [a] pos) (tI C m W) := pe_one h
theorem qe_and {a b : Expr} {rest : List Expr} {ma mb : ME} {pos : Pos} (ha : PE X a (tI C ma W)) (hb : PE X (.BoolOp .And (b :: rest) pos) (tI C mb W)) : PE X (.BoolOp .And (a :: b :: rest) pos) (tI C (mAndV ma mb) W) :=
  pe_mono (pe_and ha hb) fun σ H Q h => by
    obtain ⟨ρ, E, S, q, r0, h⟩ := h
    refine ⟨ρ, E, S, q, r0, PR.mono (PR.bind (rel := RV C) h) (fun x H1 ⟨ρ1, a, S1, e1, r1, x1, h1⟩ => ?_) fun _ _ _ z => z⟩
    split at h1
    · exact ⟨true, rv_bl.mp x1, by rw [if_pos rfl]; exact ⟨ρ1, E, S1, q.ext e1 r0, r1, h1⟩⟩
    · exact ⟨false, rv_bl.mp x1, by rw [if_neg Bool.false_ne_true]; exact PR.now (v := IV.bl _) h1 r1 (rv_bl.mpr rfl)⟩
    · exact h1.elim
theorem qe_or {a b : Expr} {rest : List Expr} {ma mb : ME} {pos : Pos} (ha : PE X a (tI C ma W)) (hb : PE X (.BoolOp .Or (b :: rest) pos) (tI C mb W)) : PE X (.BoolOp .Or (a :: b :: rest) pos) (tI C (mOrV ma mb) W) :=
  pe_mono (pe_or ha hb) fun σ H Q h => by
    obtain ⟨ρ, E, S, q, r0, h⟩ := h
    refine ⟨ρ, E, S, q, r0, PR.mono (PR.bind (rel := RV C) h) (fun x H1 ⟨ρ1, a, S1, e1, r1, x1, h1⟩ => ?_) fun _ _ _ z => z⟩
    split at h1
    · exact ⟨false, rv_bl.mp x1, by rw [if_neg Bool.false_ne_true]; exact ⟨ρ1, E, S1, q.ext e1 r0, r1, h1⟩⟩
    · exact ⟨true, rv_bl.mp x1, by rw [if_pos rfl]; exact PR.now (v := IV.bl _) h1 r1 (rv_bl.mpr rfl)⟩
    · exact h1.elim
theorem qe_not {a : Expr} {ma : ME} {pos : Pos} (ha : PE X a (tI C ma W)) : PE X (.UnaryOp .Not a pos) (tI C (mU fNotV ma) W) :=
  pe_mono (pe_not ha) fun σ H Q h => by
    obtain ⟨ρ, E, S, q, r0, h⟩ := h
    refine ⟨ρ, E, S, q, r0, PR.mono (PR.bind (rel := RV C) h) (fun x H1 ⟨ρ1, a, S1, e1, r1, x1, h1⟩ => ?_) fun _ _ _ z => z⟩
    unfold fNotV at h1
    split at h1
    · exact ⟨_, rv_bl.mp x1, PR.now (v := IV.bl _) h1 r1 (rv_bl.mpr rfl)⟩
    · exact h1.elim
def mIf (t : MT) (ma mb : ME) : ME := fun E S => (t E S).bind fun b S1 => bif b then ma E S1 else mb E S1
theorem qe_if {c a b : Expr} {t : MT} {ma mb : ME} {pos : Pos} (hc : PT X c (tT C t W)) (ha : PE X a (tI C ma W)) (hb : PE X b (tI C mb W)) : PE X (.IfExp c a b pos) (tI C (mIf t ma mb) W) :=
  pe_mono (pe_ifExp hc ha hb) fun σ H Q h => by
    obtain ⟨ρ, E, S, q, r0, h⟩ := h
    refine ⟨ρ, E, S, q, r0, PR.mono (PR.bind (rel := relB) h) (fun x H1 ⟨ρ1, a, S1, e1, r1, x1, h1⟩ => ?_) fun _ _ _ z => z⟩
    cases x1
    cases x with
    | true => exact ⟨ρ1, E, S1, q.ext e1 r0, r1, h1⟩
    | false => exact ⟨ρ1, E, S1, q.ext e1 r0, r1, h1⟩
/-- a < b < c -/
def mChain (f g : MO) (ma mb mc : ME) : ME := fun E S => (ma E S).bind fun a S1 => (mb E S1).bind fun b S2 => (f a b S2).bind fun v S3 => match v with
  | .bl true => (mc E S3).bind fun c S4 => g b c S4
  | .bl false => .ok (.bl false) S3
  | _ => .no
end
end FX

set_option Elab.async false
set_option linter.all false
set_option maxRecDepth 100000
set_option maxHeartbeats 2000000
set_option autoImplicit false
/-! FX4: chains, arguments, displays, subscripts, calls. -/
namespace FX
open PySem PySem.Spec PyProof.Rows L2
section
variable {X : Cx} {C : Wd} {W : WX}
theorem chain_mono {f g : MO} {r r' : R2} {ma mb mc : ME} (hf : OpF C f r) (hg : OpF C g r') {σ : L2.St} {H : Hp} {Q : VK} (h : tI C (mChain f g ma mb mc) W σ H Q) : tChain r r' (tI C ma W) (tI C mb W) (tI C mc W) σ H Q := by
  obtain ⟨ρ, E, S, q, r0, h⟩ := h
  refine ⟨ρ, E, S, q, r0, PR.mono (PR.bind (rel := RV C) h) (fun x H1 ⟨ρ1, a, S1, e1, r1, x1, h1⟩ => ?_) fun _ _ _ z => z⟩
  refine ⟨ρ1, E, S1, q.ext e1 r0, r1, PR.mono (PR.bind (rel := RV C) h1) (fun y H2 ⟨ρ2, b, S2, e2, r2, y2, h2⟩ => ?_) fun _ _ _ z => z⟩
  refine hf ρ2 S2 H2 a b x y _ _ r2 (x1.ext e2 r1) y2 (PR.mono (PR.bind (rel := RV C) h2) (fun z H3 ⟨ρ3, v, S3, e3, r3, z3, h3⟩ => ?_) fun _ _ _ z => z)
  split at h3
  · refine ⟨true, rv_bl.mp z3, ?_⟩
    rw [if_pos rfl]
    refine ⟨ρ3, E, S3, ((q.ext e1 r0).ext e2 r1).ext e3 r2, r3, PR.mono (PR.bind (rel := RV C) h3) (fun w H4 ⟨ρ4, c, S4, e4, r4, w4, h4⟩ => ?_) fun _ _ _ z => z⟩
    exact hg ρ4 S4 H4 b c y w _ _ r4 ((y2.ext e3 r2).ext e4 r3) w4 h4
  · refine ⟨false, rv_bl.mp z3, ?_⟩
    rw [if_neg Bool.false_ne_true]
    exact PR.now (v := IV.bl _) h3 r3 (rv_bl.mpr rfl)
  · exact h3.elim

/-! ### argument lists, displays -/
def mNil : MA := fun _ S => .ok [] S
def mCons (m : ME) (ms : MA) : MA := fun E S => (m E S).bind fun v S1 => (ms E S1).bind fun vs S2 => .ok (v :: vs) S2
theorem qa_nil : PA X [] (tA C mNil W) := pa_mono pa_nil fun σ H Q ⟨ρ, E, S, q, r, h⟩ => PR.now (rel := RVs C) h r (rvs_nil.mpr rfl)
theorem qa_cons {e : Expr} {es : List Expr} {m : ME} {ms : MA} (ha : PE X e (tI C m W)) (hr : PA X es (tA C ms W)) (hs : starEach (e :: es) X.env = (false, eval e X.env) :: starEach es X.env := by rfl) : PA X (e :: es) (tA C (mCons m ms) W) :=
  pa_mono (pa_cons ha hr hs) fun σ H Q h => by
    obtain ⟨ρ, E, S, q, r0, h⟩ := h
    refine ⟨ρ, E, S, q, r0, PR.mono (PR.bind (rel := RV C) h) (fun x H1 ⟨ρ1, a, S1, e1, r1, x1, h1⟩ => ?_) fun _ _ _ z => z⟩
    refine ⟨ρ1, E, S1, q.ext e1 r0, r1, PR.mono (PR.bind (rel := RVs C) h1) (fun ys H2 ⟨ρ2, b, S2, e2, r2, y2, h2⟩ => ?_) fun _ _ _ z => z⟩
    exact PR.now (rel := RVs C) h2 r2 (rvs_cons.mpr ⟨x, ys, rfl, x1.ext e2 r1, y2⟩)
def mTup (ms : MA) : ME := fun E S => (ms E S).bind fun vs S1 => bif fullLen vs.length then .ok (.tup vs) S1 else .no
def mLst (ms : MA) : ME := fun E S => (ms E S).bind fun vs S1 => bif fullLen vs.length then .ok (.ref S1.top) (S1.new (.lst vs)) else .no
theorem qe_tup {es : List Expr} {ms : MA} {k} {pos : Pos} (h : PA X es (tA C ms W)) : PE X (.Tuple es k pos) (tI C (mTup ms) W) :=
  pe_mono (pe_tup h) fun σ H Q h => by
    obtain ⟨ρ, E, S, q, r0, h⟩ := h
    refine ⟨ρ, E, S, q, r0, PR.mono (PR.bind (rel := RVs C) h) (fun x H1 ⟨ρ1, a, S1, e1, r1, x1, h1⟩ => ?_) fun _ _ _ z => z⟩
    cases z : fullLen a.length with
    | false => rw [z] at h1; exact h1.elim
    | true =>
      rw [z] at h1
      refine ⟨by rw [x1.length]; exact fullLen_ok z, fun p hp => ?_⟩
      obtain ⟨g1, g2, g3⟩ := new_tup r1 hp x1
      exact h1 _ _ _ g1 g2 g3
theorem qe_lst {es : List Expr} {ms : MA} {pos : Pos} (h : PA X es (tA C ms W)) : PE X (.List es pos) (tI C (mLst ms) W) :=
  pe_mono (pe_lst h) fun σ H Q h => by
    obtain ⟨ρ, E, S, q, r0, h⟩ := h
    refine ⟨ρ, E, S, q, r0, PR.mono (PR.bind (rel := RVs C) h) (fun x H1 ⟨ρ1, a, S1, e1, r1, x1, h1⟩ => ?_) fun _ _ _ z => z⟩
    cases z : fullLen a.length with
    | false => rw [z] at h1; exact h1.elim
    | true =>
      rw [z] at h1
      refine ⟨by rw [x1.length]; exact fullLen_ok z, fun p hp => ?_⟩
      obtain ⟨g1, g2, g3⟩ := new_lst r1 hp x1
      exact h1 _ _ _ g1 g2 g3

/-! ### subscripts -/
def fIx : MO := fun a b S => match b with
  | .int i => (match a with
    | .str z => (bif fullLen z.length then (match atI z.cps.toList i with
      | some c => .ok (.str ⟨#[c]⟩) S
      | none => .no) else .no)
    | a => match itemsOf S a with
      | some xs => (match atI xs i with
        | some v => .ok v S
        | none => .no)
      | none => .no)
  | _ => .no
theorem RVs.atI {ρ : Map} {H : Hp} {xs : List IV} {vs : List V} {i : Int} {x : IV} (h : RVs C ρ H xs vs) (e : L2.atI xs i = some x) : ∃ v, L2.atI vs i = some v ∧ RV C ρ H x v := by
  unfold L2.atI at e ⊢
  rw [h.length]
  cases z : ixN xs.length i with
  | none => rw [z] at e; cases e
  | some j =>
    rw [z] at e
    exact h.get e
theorem fIx_ok : OpF C fIx (rIx C.K) := by
  intro ρ S H a b x y Q W r ha hb h
  unfold fIx at h
  split at h
  · have e2 := rv_int.mp hb
    split at h
    · rename_i z
      cases f : fullLen z.length with
      | false => rw [f] at h; exact h.elim
      | true =>
        rw [f] at h
        dsimp only [cond_true] at h
        split at h
        · rename_i c hc
          exact .inr (.inr ⟨z, _, c, rv_str.mp ha, e2, fullLen_ok f, hc, PR.now (v := IV.str _) h r (rv_str.mpr rfl)⟩)
        · exact h.elim
    · split at h
      · rename_i xs hx
        obtain ⟨p, vs, e1, t, q⟩ := itemsOf_ok r hx ha
        split at h
        · rename_i v hv
          obtain ⟨u, h1, h2⟩ := RVs.atI q hv
          rcases t with t | t
          · exact .inl ⟨p, vs, _, u, e1, e2, t, h1, h.now r h2⟩
          · exact .inr (.inl ⟨p, vs, _, u, e1, e2, t, h1, h.now r h2⟩)
        · exact h.elim
      · exact h.elim
  · exact h.elim
theorem qe_ix {a b : Expr} {ma mb : ME} {pos : Pos} (hK : X.K = C.K) (ha : PE X a (tI C ma W)) (hb : PE X b (tI C mb W)) (hs : PlainIx b) : PE X (.Subscript a b pos) (tI C (mB fIx ma mb) W) :=
  pe_mono (pe_ix ix_seq ha hb hs) fun _ _ _ h => by rw [hK]; exact two_mono fIx_ok h
/-- slices -/
abbrev MP := Env' → Sto → R (Option Int)
def relP (_ : Map) (_ : Hp) (b c : Option Int) : Prop := c = b
def tP (C : Wd) (m : MP) (W : WX) : TO := fun σ H Q => ∃ ρ E S, RE C ρ H E σ ∧ Rel C ρ S H ∧ PR C relP (m E S) ρ S H Q (fun c d H' => W c d σ H')
def mNoP : MP := fun _ S => .ok none S
def mP (m : ME) : MP := fun E S => (m E S).bind fun v S1 => match v with
  | .int i => .ok (some i) S1
  | _ => .no
theorem po_mono {e : Option Expr} {t t' : TO} (h : PO X e t) (m : ∀ σ H Q, t' σ H Q → t σ H Q) : PO X e t' := by
  cases h with
  | mk run => exact ⟨fun pins s σ H Q I q => run pins s σ H Q I (m _ _ _ q)⟩
theorem qp_none : PO X none (tP C mNoP W) := po_mono po_none fun σ H Q ⟨ρ, E, S, q, r, h⟩ => PR.now (rel := relP) h r rfl
theorem qp_some {e : Expr} {m : ME} (h : PE X e (tI C m W)) : PO X (some e) (tP C (mP m) W) := po_mono (po_some h) fun σ H Q h => by
  obtain ⟨ρ, E, S, q, r0, h⟩ := h
  refine ⟨ρ, E, S, q, r0, PR.mono (PR.bind (rel := RV C) h) (fun x H1 ⟨ρ1, a, S1, e1, r1, x1, h1⟩ => ?_) fun _ _ _ z => z⟩
  split at h1
  · exact ⟨_, rv_int.mp x1, PR.now (rel := relP) h1 r1 rfl⟩
  · exact h1.elim
def cutI (xs : List IV) (lo hi : Option Int) : List IV := (xs.drop (HT.sIx xs.length 0 lo)).take (HT.sIx xs.length xs.length hi - HT.sIx xs.length 0 lo)
theorem RVs.cut {ρ : Map} {H : Hp} {xs : List IV} {vs : List V} (h : RVs C ρ H xs vs) (lo hi : Option Int) : RVs C ρ H (cutI xs lo hi) (cutV vs lo hi) := by
  unfold cutI cutV
  rw [h.length]
  exact (h.drop _).take _
def fSl : IV → Option Int → Option Int → Sto → R IV := fun a lo hi S => match a with
  | .str z => bif fullLen z.length then .ok (.str (cutS z lo hi)) S else .no
  | .tup xs => .ok (.tup (cutI xs lo hi)) S
  | .ref n => (match S.get n with
    | some (.lst xs) => .ok (.ref S.top) (S.new (.lst (cutI xs lo hi)))
    | _ => .no)
  | _ => .no
def mSl (m : ME) (l u : MP) : ME := fun E S => (m E S).bind fun a S1 => (l E S1).bind fun lo S2 => (u E S2).bind fun hi S3 => fSl a lo hi S3
theorem fSl_ok {a : IV} {lo hi : Option Int} {ρ3 : Map} {S3 : Sto} {H3 : Hp} {x : V} {Q : VK} {W : XK} (r3 : Rel C ρ3 S3 H3) (x3 : RV C ρ3 H3 a x) (h3 : PR C (RV C) (fSl a lo hi S3) ρ3 S3 H3 Q W) :
    rSlL C.K x lo hi H3 Q ∨ rSlA C.K x lo hi H3 Q ∨ rSlS x lo hi H3 Q := by
  unfold fSl at h3
  split at h3
  · rename_i z
    cases f : fullLen z.length with
    | false => rw [f] at h3; exact h3.elim
    | true =>
      rw [f] at h3
      exact .inr (.inr ⟨z, rv_str.mp x3, fullLen_ok f, PR.now (v := IV.str _) h3 r3 (rv_str.mpr rfl)⟩)
  · rename_i xs
    obtain ⟨p, vs, e, t, v⟩ := rv_tup.mp x3
    have v2 := v.cut lo hi
    refine .inr (.inl ⟨p, vs, e, t, fun hz => ?_, fun hz w hw => ?_⟩)
    · refine PR.now (v := IV.tup _) h3 r3 (rv_tup.mpr ⟨p, vs, rfl, t, ?_⟩)
      have ev : cutV vs lo hi = vs := by
        unfold cutV
        rw [hz.1, hz.2, List.drop_zero, Nat.sub_zero, List.take_length]
      rw [ev] at v2
      exact v2
    · obtain ⟨g1, g2, g3⟩ := new_tup r3 hw v2
      exact h3 _ _ _ g1 g2 g3
  · rename_i n
    split at h3
    · rename_i xs g
      obtain ⟨p, vs, _, e, hp, v⟩ := cell_at r3 x3 g
      refine .inl ⟨p, vs, e, SqL.of hp, fun w hw => ?_⟩
      obtain ⟨g1, g2, g3⟩ := new_lst r3 hw (v.cut lo hi)
      exact h3 _ _ _ g1 g2 g3
    · exact h3.elim
  · exact h3.elim

theorem qe_slice {e : Expr} {lo hi : Option Expr} {m : ME} {l u : MP} {p2 pos : Pos} (hK : X.K = C.K) (he : PE X e (tI C m W)) (hl : PO X lo (tP C l W)) (hu : PO X hi (tP C u W)) : PE X (.Subscript e (.Slice lo hi none p2) pos) (tI C (mSl m l u) W) :=
  pe_mono (pe_slice (sl_list.or (sl_tupA.or sl_str)) he hl hu) fun σ H Q h => by
    obtain ⟨ρ, E, S, q, r0, h⟩ := h
    refine ⟨ρ, E, S, q, r0, PR.mono (PR.bind (rel := RV C) h) (fun x H1 ⟨ρ1, a, S1, e1, r1, x1, h1⟩ => ?_) fun _ _ _ z => z⟩
    refine ⟨ρ1, E, S1, q.ext e1 r0, r1, PR.mono (PR.bind (rel := relP) h1) (fun lo H2 ⟨ρ2, b, S2, e2, r2, y2, h2⟩ => ?_) fun _ _ _ z => z⟩
    cases y2
    refine ⟨ρ2, E, S2, (q.ext e1 r0).ext e2 r1, r2, PR.mono (PR.bind (rel := relP) h2) (fun hi H3 ⟨ρ3, c, S3, e3, r3, y3, h3⟩ => ?_) fun _ _ _ z => z⟩
    cases y3
    have x3 := (x1.ext e2 r1).ext e3 r2
    rw [hK]
    exact fSl_ok r3 x3 h3

/-! ### calls -/
/-- a call's promise -/
def spI (C : Wd) (n : Nat) (m : MF) : Sp := fun vs H Q E => vs.length = n ∧ ∃ ρ S as, Rel C ρ S H ∧ RVs C ρ H as vs ∧ PR C (RV C) (m as S) ρ S H Q E
/-- of a built-in -/
def CallF (C : Wd) (f : MF) (r : List V → Hp → VK → Prop) : Prop := ∀ ρ S H as xs Q W, Rel C ρ S H → RVs C ρ H as xs → PR C (RV C) (f as S) ρ S H Q W → r xs H Q
def mCall (f : MF) (ms : MA) : ME := fun E S => (ms E S).bind f
theorem callF_mono {f : MF} {r : List V → Hp → VK → Prop} {ms : MA} (hf : CallF C f r) {σ : L2.St} {H : Hp} {Q : VK} (h : tI C (mCall f ms) W σ H Q) : tCB r (tA C ms W) σ H Q := by
  obtain ⟨ρ, E, S, q, r0, h⟩ := h
  refine ⟨ρ, E, S, q, r0, PR.mono (PR.bind (rel := RVs C) h) (fun x H1 ⟨ρ1, a, S1, e1, r1, x1, h1⟩ => ?_) fun _ _ _ z => z⟩
  exact hf ρ1 S1 H1 a x Q _ r1 x1 h1
theorem qe_callB {x : Str} {id : String} {r : List V → Hp → VK → Prop} {f : MF} {e : Expr} {es : List Expr} {ms : MA} {p pos : Pos} (hc : CallR X (.builtin id) r) (hf : CallF C f r) (hg : Gl X x) (hm : X.mg x = none) (hv : bootBuiltins x = some (.builtin id)) (ha : PA X (e :: es) (tA C ms W)) (hn : x ≠ "__name__" := by decide) (hdb : (x == ("__debug__" : Str)) = false := by decide)
    (he : starEach (e :: es) X.env = (false, eval e X.env) :: starEach es X.env := by rfl) (hpl : (backTo pos (starEach es X.env)).any (·.1) = false := by rfl) : PE X (.Call (.Name x p) (e :: es) [] pos) (tI C (mCall f ms) W) :=
  pe_mono (pe_callB hc hg hm hv ha hn hdb he hpl) fun _ _ _ h => callF_mono hf h
theorem qe_callTy {x : Str} {T : String} {r : List V → Hp → VK → Prop} {f : MF} {e : Expr} {es : List Expr} {ms : MA} {p pos : Pos} (hc : CallR X (.type T) r) (hf : CallF C f r) (hg : Gl X x) (hm : X.mg x = none) (hv : bootBuiltins x = some (.type T)) (ha : PA X (e :: es) (tA C ms W)) (hn : x ≠ "__name__" := by decide) (hdb : (x == ("__debug__" : Str)) = false := by decide)
    (he : starEach (e :: es) X.env = (false, eval e X.env) :: starEach es X.env := by rfl) (hpl : (backTo pos (starEach es X.env)).any (·.1) = false := by rfl) : PE X (.Call (.Name x p) (e :: es) [] pos) (tI C (mCall f ms) W) :=
  pe_mono (pe_callTy hc hg hm hv ha hn hdb he hpl) fun _ _ _ h => callF_mono hf h
/-! of a def of the text; where its arguments hold no cell, it runs in a store of its own -/
mutual
def flatR : IV → Bool
  | .ref _ => false
  | .tup xs => flatRs xs
  | .frz xs => flatRs xs
  | _ => true
def flatRs : List IV → Bool
  | [] => true
  | x :: xs => flatR x && flatRs xs
end
mutual
def shift (d : Nat) : IV → IV
  | .ref n => .ref (d + n)
  | .tup xs => .tup (shifts d xs)
  | .frz xs => .frz (shifts d xs)
  | .non => .non
  | .bl b => .bl b
  | .int i => .int i
  | .str x => .str x
  | .glo n => .glo n
  | .ty t => .ty t
def shifts (d : Nat) : List IV → List IV
  | [] => []
  | x :: xs => shift d x :: shifts d xs
end
def shiftK (d : Nat) : List (L2.Key × IV) → List (L2.Key × IV)
  | [] => []
  | (k, v) :: r => (k, shift d v) :: shiftK d r
theorem shiftK_fst (d : Nat) : ∀ kvs, (shiftK d kvs).map (·.1) = kvs.map (·.1)
  | [] => rfl
  | (k, v) :: r => congrArg (k :: ·) (shiftK_fst d r)
theorem shiftK_snd (d : Nat) : ∀ kvs, (shiftK d kvs).map (·.2) = shifts d (kvs.map (·.2))
  | [] => rfl
  | (k, v) :: r => by
    show shift d v :: (shiftK d r).map (·.2) = shift d v :: shifts d (r.map (·.2))
    rw [shiftK_snd d r]
def shiftO (d : Nat) : IO → IO
  | .lst xs => .lst (shifts d xs)
  | .dct kvs => .dct (shiftK d kvs)
theorem ro_tbl {C : Wd} {ρ : Map} {H : Hp} : ∀ {o : IO} {ho : HO}, RO C ρ H o ho → isTbl ho = false
  | .lst _, _, ⟨_, e, _⟩ => by rw [e]; rfl
  | .dct _, _, ⟨_, e, _⟩ => by rw [e]; rfl
def own (f : MF) : MF := fun as S => bif flatRs as then (match f as ⟨0, []⟩ with
  | .ok v S' => bif flatR v then .ok v S else .ok (shift S.top v) ⟨S.top + S'.top, S'.cells.map (shiftO S.top) ++ S.cells⟩
  | .ex e S' => (match e.arg with
    | none => .ex e S
    | some v => bif flatR v then .ex e S else .no)
  | .no => .no) else f as S
mutual
theorem shift_rv {ρ ρ' : Map} {H : Hp} {d : Nat} (key : ∀ n a, ρ n = some a → ρ' (d + n) = some a) : ∀ {x : IV} {v : V}, RV C ρ H x v → RV C ρ' H (shift d x) v
  | .non, _, h => by unfold shift; exact rv_non.mpr (rv_non.mp h)
  | .bl _, _, h => by unfold shift; exact rv_bl.mpr (rv_bl.mp h)
  | .int _, _, h => by unfold shift; exact rv_int.mpr (rv_int.mp h)
  | .str _, _, h => by unfold shift; exact rv_str.mpr (rv_str.mp h)
  | .glo _, _, h => by unfold shift; exact rv_glo.mpr (rv_glo.mp h)
  | .ty _, _, h => by unfold shift; exact rv_ty.mpr (rv_ty.mp h)
  | .ref n, _, h => by
    unfold shift
    obtain ⟨a, h1, h2⟩ := rv_ref.mp h
    exact rv_ref.mpr ⟨a, key n a h1, h2⟩
  | .tup xs, _, h => by
    unfold shift
    obtain ⟨a, vs, e, t, q⟩ := rv_tup.mp h
    exact rv_tup.mpr ⟨a, vs, e, t, shifts_rv key q⟩
  | .frz xs, _, h => by
    unfold shift
    obtain ⟨a, vs, e, t, q⟩ := rv_frz.mp h
    exact rv_frz.mpr ⟨a, vs, e, t, shifts_rv key q⟩
theorem shifts_rv {ρ ρ' : Map} {H : Hp} {d : Nat} (key : ∀ n a, ρ n = some a → ρ' (d + n) = some a) : ∀ {xs : List IV} {vs : List V}, RVs C ρ H xs vs → RVs C ρ' H (shifts d xs) vs
  | [], _, h => by unfold shifts; exact rvs_nil.mpr (rvs_nil.mp h)
  | x :: xs, _, h => by
    unfold shifts
    obtain ⟨v, q, e, h1, h2⟩ := rvs_cons.mp h
    exact rvs_cons.mpr ⟨v, q, e, shift_rv key h1, shifts_rv key h2⟩
end
mutual
theorem RV.map {ρ ρ' : Map} {H : Hp} (key : ∀ i a, ρ i = some a → ρ' i = some a) : ∀ {x : IV} {v : V}, RV C ρ H x v → RV C ρ' H x v
  | .non, _, h => rv_non.mpr (rv_non.mp h)
  | .bl _, _, h => rv_bl.mpr (rv_bl.mp h)
  | .int _, _, h => rv_int.mpr (rv_int.mp h)
  | .str _, _, h => rv_str.mpr (rv_str.mp h)
  | .glo _, _, h => rv_glo.mpr (rv_glo.mp h)
  | .ty _, _, h => rv_ty.mpr (rv_ty.mp h)
  | .ref n, _, h => by
    obtain ⟨a, h1, h2⟩ := rv_ref.mp h
    exact rv_ref.mpr ⟨a, key n a h1, h2⟩
  | .tup xs, _, h => by
    obtain ⟨a, vs, e, t, q⟩ := rv_tup.mp h
    exact rv_tup.mpr ⟨a, vs, e, t, RVs.map key q⟩
  | .frz xs, _, h => by
    obtain ⟨a, vs, e, t, q⟩ := rv_frz.mp h
    exact rv_frz.mpr ⟨a, vs, e, t, RVs.map key q⟩
theorem RVs.map {ρ ρ' : Map} {H : Hp} (key : ∀ i a, ρ i = some a → ρ' i = some a) : ∀ {xs : List IV} {vs : List V}, RVs C ρ H xs vs → RVs C ρ' H xs vs
  | [], _, h => rvs_nil.mpr (rvs_nil.mp h)
  | x :: xs, _, h => by
    obtain ⟨v, q, e, h1, h2⟩ := rvs_cons.mp h
    exact rvs_cons.mpr ⟨v, q, e, RV.map key h1, RVs.map key h2⟩
end
mutual
theorem flatR_rv {ρ ρ' : Map} {H : Hp} : ∀ {x : IV} {v : V}, flatR x = true → RV C ρ H x v → RV C ρ' H x v
  | .non, _, _, h => rv_non.mpr (rv_non.mp h)
  | .bl _, _, _, h => rv_bl.mpr (rv_bl.mp h)
  | .int _, _, _, h => rv_int.mpr (rv_int.mp h)
  | .str _, _, _, h => rv_str.mpr (rv_str.mp h)
  | .glo _, _, _, h => rv_glo.mpr (rv_glo.mp h)
  | .ty _, _, _, h => rv_ty.mpr (rv_ty.mp h)
  | .ref _, _, f, _ => by unfold flatR at f; cases f
  | .tup xs, _, f, h => by
    unfold flatR at f
    obtain ⟨a, vs, e, t, q⟩ := rv_tup.mp h
    exact rv_tup.mpr ⟨a, vs, e, t, flatRs_rv f q⟩
  | .frz xs, _, f, h => by
    unfold flatR at f
    obtain ⟨a, vs, e, t, q⟩ := rv_frz.mp h
    exact rv_frz.mpr ⟨a, vs, e, t, flatRs_rv f q⟩
theorem flatRs_rv {ρ ρ' : Map} {H : Hp} : ∀ {xs : List IV} {vs : List V}, flatRs xs = true → RVs C ρ H xs vs → RVs C ρ' H xs vs
  | [], _, _, h => rvs_nil.mpr (rvs_nil.mp h)
  | x :: xs, _, f, h => by
    unfold flatRs at f
    rw [Bool.and_eq_true] at f
    obtain ⟨v, q, e, h1, h2⟩ := rvs_cons.mp h
    exact rvs_cons.mpr ⟨v, q, e, flatR_rv f.1 h1, flatRs_rv f.2 h2⟩
end
theorem get_empty (n i : Nat) : (Sto.mk n []).get i = none := by
  unfold Sto.get
  split <;> simp
/-- the cells of S, below those of S' -/
theorem get_both {S S' : Sto} (h : S'.cells.length = S'.top) (i : Nat) : (Sto.mk (S.top + S'.top) (S'.cells.map (shiftO S.top) ++ S.cells)).get i = if S.top ≤ i then (S'.get (i - S.top)).map (shiftO S.top) else S.get i := by
  unfold Sto.get
  dsimp only
  by_cases hl : S.top ≤ i
  · rw [if_pos hl]
    by_cases hi : i < S.top + S'.top
    · have h2 : i - S.top < S'.top := by omega
      rw [if_pos hi, if_pos h2, List.getElem?_append_left (by rw [List.length_map]; omega), List.getElem?_map]
      congr 2
      omega
    · have h2 : ¬ i - S.top < S'.top := by omega
      rw [if_neg hi, if_neg h2]
      rfl
  · rw [if_neg hl]
    have hi : i < S.top + S'.top := by omega
    have hi2 : i < S.top := by omega
    rw [if_pos hi, if_pos hi2, List.getElem?_append_right (by rw [List.length_map]; omega), List.length_map]
    congr 1
    omega
theorem own_ok {f : MF} {as : List IV} {vs : List V} {ρ : Map} {S : Sto} {H : Hp} {Q : VK} {E : XK} (r : Rel C ρ S H) (h : RVs C ρ H as vs) (q : PR C (RV C) (own f as S) ρ S H Q E) :
    ∃ ρ S as, Rel C ρ S H ∧ RVs C ρ H as vs ∧ PR C (RV C) (f as S) ρ S H Q E := by
  unfold own at q
  cases z : flatRs as with
  | false =>
    rw [z] at q
    exact ⟨ρ, S, as, r, h, q⟩
  | true =>
    rw [z, cond_true] at q
    have r0 : Rel C (fun _ => none) ⟨0, []⟩ H := ⟨fun i o g => (by rw [get_empty] at g; cases g), fun i j a h _ => (by cases h), fun i a h => (by cases h), r.tabs⟩
    refine ⟨fun _ => none, ⟨0, []⟩, as, r0, flatRs_rv z h, ?_⟩
    -- nothing that was there has changed
    have same : ∀ {ρ' S' H'}, Ext (fun _ => none) ⟨0, []⟩ H ρ' S' H' → ∀ b o, H b = some o → isTbl o = false → H' b = some o := fun e b o hb ht => e.frame b o hb ht fun i hi => absurd (get_empty 0 i) hi
    have ext0 : ∀ {ρ' S' H'}, Ext (fun _ => none) ⟨0, []⟩ H ρ' S' H' → Ext ρ S H ρ S H' := fun {ρ' S' H'} e =>
      ⟨fun _ _ h => h, fun _ _ h _ => h, fun i a h hl => absurd (r.live i a h).1 (Nat.not_lt.mpr hl), ⟨0, rfl, rfl⟩, fun b o hb ht _ => same e b o hb ht, e.there, fun _ _ h => h⟩
    have rel0 : ∀ {ρ' S' H'}, Ext (fun _ => none) ⟨0, []⟩ H ρ' S' H' → LamX.Tabs C.T H' → Rel C ρ S H' := fun {ρ' S' H'} e tb => by
      refine ⟨fun i o g => ?_, r.inj, fun i a ha => ?_, tb⟩
      · obtain ⟨a, ho, e1, e2, e3⟩ := r.obj i o g
        exact ⟨a, ho, e1, same e a ho e2 (ro_tbl e3), ro_ext (ext0 e) r e3⟩
      · obtain ⟨h1, ho, h2, h3⟩ := r.live i a ha
        exact ⟨h1, ho, same e a ho h2 (isTbl_cell h3), h3⟩
    cases e : f as ⟨0, []⟩ with
    | no => rw [e] at q; exact q.elim
    | ex x S' =>
      rw [e] at q
      intro ρ' H' cls d e1 r1 x1
      cases ha : x.arg with
      | none =>
        simp only [ha] at q
        refine q ρ H' cls d (ext0 e1) (rel0 e1 r1.tabs) ?_
        unfold RX at x1 ⊢
        rw [ha] at x1 ⊢
        exact x1
      | some v =>
        simp only [ha] at q
        cases zv : flatR v with
        | false => rw [zv] at q; exact q.elim
        | true =>
          rw [zv] at q
          refine q ρ H' cls d (ext0 e1) (rel0 e1 r1.tabs) ?_
          unfold RX at x1 ⊢
          rw [ha] at x1 ⊢
          obtain ⟨x2, dd, y, x3, x4, x5⟩ := x1
          exact ⟨x2, dd, y, x3, x4, flatR_rv zv x5⟩
    | ok v S' =>
      rw [e] at q
      intro ρ' H' x e1 r1 x1
      cases zv : flatR v with
      | true =>
        simp only [zv, cond_true] at q
        exact q ρ H' x (ext0 e1) (rel0 e1 r1.tabs) (flatR_rv zv x1)
      | false =>
        simp only [zv, cond_false] at q
        obtain ⟨k, g1, g2⟩ := e1.grow
        have g1 : S'.top = k := by simpa using g1
        have g2 : S'.cells.length = k := by simpa using g2
        have g3 : S'.cells.length = S'.top := by rw [g1, g2]
        have gb := fun i => get_both (S := S) (S' := S') g3 i
        let ρ2 : Map := fun i => if i < S.top then ρ i else ρ' (i - S.top)
        have lo : ∀ i, i < S.top → ρ2 i = ρ i := fun i hi => if_pos hi
        have hi_ : ∀ i, S.top ≤ i → ρ2 i = ρ' (i - S.top) := fun i hi => if_neg (Nat.not_lt.mpr hi)
        have keyN : ∀ n a, ρ' n = some a → ρ2 (S.top + n) = some a := fun n a hn => by
          rw [hi_ _ (Nat.le_add_right _ _), Nat.add_sub_cancel_left]
          exact hn
        have keyO : ∀ n a, ρ n = some a → ρ2 n = some a := fun n a hn => by
          rw [lo n (r.live n a hn).1]
          exact hn
        have newN : ∀ i a, ρ' i = some a → H a = none := fun i a hi => e1.fresh i a hi (Nat.zero_le _)
        refine q ρ2 H' x ⟨keyO, fun i a hi hl => by rw [lo i hl] at hi; exact hi, fun i a hi hl => ?_, ⟨S'.top, rfl, by simp [g3, Nat.add_comm]⟩, fun b o hb ht _ => same e1 b o hb ht, e1.there, fun i hl hg => ?_⟩ ⟨fun i o g => ?_, fun i j a hi hj => ?_, fun i a hi => ?_, r1.tabs⟩ (shift_rv keyN x1)
        · rw [hi_ i hl] at hi
          exact newN _ a hi
        · rw [gb, if_neg (Nat.not_le.mpr hl)] at hg
          exact hg
        · rw [gb] at g
          by_cases hl : S.top ≤ i
          · rw [if_pos hl] at g
            obtain ⟨o', g4, rfl⟩ := Option.map_eq_some_iff.mp g
            obtain ⟨a, ho, f1, f2, f3⟩ := r1.obj _ o' g4
            refine ⟨a, ho, by rw [hi_ i hl]; exact f1, f2, ?_⟩
            cases o' with
            | lst ys =>
              obtain ⟨us, rfl, e4⟩ := f3
              exact ⟨us, rfl, shifts_rv keyN e4⟩
            | dct kvs =>
              obtain ⟨ws, rfl, e3, e4⟩ := f3
              exact ⟨ws, rfl, by rw [shiftK_fst]; exact e3, by rw [shiftK_snd]; exact shifts_rv keyN e4⟩
          · rw [if_neg hl] at g
            obtain ⟨a, ho, f1, f2, f3⟩ := (rel0 e1 r1.tabs).obj i o g
            refine ⟨a, ho, keyO i a f1, f2, ?_⟩
            cases o with
            | lst ys =>
              obtain ⟨us, rfl, e4⟩ := f3
              exact ⟨us, rfl, RVs.map keyO e4⟩
            | dct kvs =>
              obtain ⟨ws, rfl, e3, e4⟩ := f3
              exact ⟨ws, rfl, e3, RVs.map keyO e4⟩
        · by_cases h1 : i < S.top <;> by_cases h2 : j < S.top
          · rw [lo i h1] at hi
            rw [lo j h2] at hj
            exact r.inj i j a hi hj
          · rw [lo i h1] at hi
            rw [hi_ j (Nat.le_of_not_lt h2)] at hj
            obtain ⟨_, ho, h3, _⟩ := r.live i a hi
            rw [newN _ a hj] at h3
            cases h3
          · rw [lo j h2] at hj
            rw [hi_ i (Nat.le_of_not_lt h1)] at hi
            obtain ⟨_, ho, h3, _⟩ := r.live j a hj
            rw [newN _ a hi] at h3
            cases h3
          · rw [hi_ i (Nat.le_of_not_lt h1)] at hi
            rw [hi_ j (Nat.le_of_not_lt h2)] at hj
            have := r1.inj _ _ a hi hj
            omega
        · by_cases h1 : i < S.top
          · rw [lo i h1] at hi
            obtain ⟨h2, ho, h3, h4⟩ := (rel0 e1 r1.tabs).live i a hi
            exact ⟨Nat.lt_of_lt_of_le h2 (Nat.le_add_right _ _), ho, h3, h4⟩
          · rw [hi_ i (Nat.le_of_not_lt h1)] at hi
            obtain ⟨h2, ho, h3, h4⟩ := r1.live _ a hi
            exact ⟨by show i < S.top + S'.top; omega, ho, h3, h4⟩
def mCallO (f : MF) (ms : MA) : ME := fun E S => (ms E S).bind fun as S1 => own f as S1
theorem qe_call {k : Nat} {f : Addr} {fd : FuncData} {ps : List Str} {m : MF} {x : Str} {e : Expr} {es : List Expr} {ms : MA} {p pos : Pos} (tk : Takes X W) (F : FnOk X.prog X.w X.K X.mg X.base (L2.CX X.prog X.w) k f fd ps (spI C ps.length m)) (hr : Room k X.A) (hg : Gl X x) (hm : X.mg x = some (.ref f)) (hk : PySem.W.keepIn X.K (.ref f) = true) (hb : Binds X.K fd ps [])
    (ha : PA X (e :: es) (tA C ms W)) (hl : (e :: es).length = ps.length) (hdb : (x == ("__debug__" : Str)) = false := by decide) (he : starEach (e :: es) X.env = (false, eval e X.env) :: starEach es X.env := by rfl) (hpl : (backTo pos (starEach es X.env)).any (·.1) = false := by rfl)
    (hn : ∀ E S as S', ms E S = .ok as S' → as.length = (e :: es).length) : PE X (.Call (.Name x p) (e :: es) [] pos) (tI C (mCallO m ms) W) :=
  pe_mono (pe_callS F hr hg hm hk hb (fun σ => passAt tk σ) ha hdb he hpl) fun σ H Q h => by
    obtain ⟨ρ, E, S, q, r0, h⟩ := h
    have hn' := hn E S
    revert hn'
    cases e0 : ms E S with
    | no => intro _; rw [mCallO, e0] at h; exact h.elim
    | ex x S' =>
      intro _
      refine ⟨ρ, E, S, q, r0, ?_⟩
      rw [e0]
      rw [mCallO, e0] at h
      exact h
    | ok as S' =>
      intro hn'
      refine ⟨ρ, E, S, q, r0, ?_⟩
      rw [e0]
      rw [mCallO, e0] at h
      intro ρ1 H1 x1 e1 r1 y1
      have hlen := hn' as S' rfl
      have h1 : PR C (RV C) (own m as S') ρ S H Q (fun c d H' => W c d σ H') := h
      exact ⟨by rw [y1.length, hlen, hl], own_ok r1 y1 (h1.ext e1)⟩
end
end FX

set_option Elab.async false
set_option linter.all false
set_option maxRecDepth 100000
set_option maxHeartbeats 2000000
set_option autoImplicit false
/-! FX5: built-in functions. -/
namespace FX
open PySem PySem.Spec PyProof.Rows L2
section
variable {X : Cx} {C : Wd} {W : WX}
theorem rvs_one {ρ : Map} {H : Hp} {a : IV} {xs : List V} (h : RVs C ρ H [a] xs) : ∃ x, xs = [x] ∧ RV C ρ H a x := by
  obtain ⟨v, r, rfl, h1, h2⟩ := rvs_cons.mp h
  rw [rvs_nil.mp h2]
  exact ⟨v, rfl, h1⟩
theorem rvs_two {ρ : Map} {H : Hp} {a b : IV} {xs : List V} (h : RVs C ρ H [a, b] xs) : ∃ x y, xs = [x, y] ∧ RV C ρ H a x ∧ RV C ρ H b y := by
  obtain ⟨v, r, rfl, h1, h2⟩ := rvs_cons.mp h
  obtain ⟨y, rfl, h3⟩ := rvs_one h2
  exact ⟨v, y, rfl, h1, h3⟩
/-! ### len, abs, int -/
def bLen : MF := fun as S => match as with
  | [.str z] => bif fullLen z.length then .ok (.int z.length) S else .no
  | [a] => (match itemsOf S a with
    | some xs => .ok (.int xs.length) S
    | none => .no)
  | _ => .no
def rLenA (K : PySem.W.Frag) : List V → Hp → VK → Prop := fun xs H Q => ∃ x n, xs = [x] ∧ LenV K x H n ∧ Q (.int n) H
theorem bLen_ok : CallF C bLen (rLenA C.K) := by
  intro ρ S H as xs Q W r h q
  unfold bLen at q
  split at q
  · rename_i z
    obtain ⟨x, rfl, h1⟩ := rvs_one h
    cases f : fullLen z.length with
    | false => rw [f] at q; exact q.elim
    | true =>
      rw [f] at q
      have e := rv_str.mp h1
      subst e
      exact ⟨_, _, rfl, ⟨fullLen_ok f, rfl⟩, PR.now (v := IV.int _) q r (rv_int.mpr rfl)⟩
  · obtain ⟨x, rfl, h1⟩ := rvs_one h
    split at q
    · rename_i ys hy
      obtain ⟨p, vs, rfl, t, e⟩ := itemsOf_ok r hy h1
      refine ⟨_, ys.length, rfl, ?_, PR.now (v := IV.int _) q r (rv_int.mpr rfl)⟩
      rcases t with t | t
      · exact .inl ⟨vs, t, e.length.symm⟩
      · exact .inr ⟨vs, t, e.length.symm⟩
    · exact q.elim
  · exact q.elim
def bAbs : MF := fun as S => match as with
  | [.int i] => .ok (.int (if i < 0 then -i else i)) S
  | _ => .no
theorem bAbs_ok : CallF C bAbs (fun xs H Q => ∃ i, xs = [.int i] ∧ Q (.int (if i < 0 then -i else i)) H) := by
  intro ρ S H as xs Q W r h q
  unfold bAbs at q
  split at q
  · obtain ⟨x, rfl, h1⟩ := rvs_one h
    have e := rv_int.mp h1
    subst e
    exact ⟨_, rfl, PR.now (v := IV.int _) q r (rv_int.mpr rfl)⟩
  · exact q.elim
def bInt : MF := fun as S => match as with
  | [.int i] => .ok (.int i) S
  | [.bl b] => .ok (.int (if b then 1 else 0)) S
  | _ => .no
theorem bInt_ok : CallF C bInt (fun xs H Q => (∃ i, xs = [.int i] ∧ Q (.int i) H) ∨ ∃ k, xs = [.bl k] ∧ Q (.int (if k then 1 else 0)) H) := by
  intro ρ S H as xs Q W r h q
  unfold bInt at q
  split at q
  · obtain ⟨x, rfl, h1⟩ := rvs_one h
    have e := rv_int.mp h1
    subst e
    exact .inl ⟨_, rfl, PR.now (v := IV.int _) q r (rv_int.mpr rfl)⟩
  · obtain ⟨x, rfl, h1⟩ := rvs_one h
    have e := rv_bl.mp h1
    subst e
    exact .inr ⟨_, rfl, PR.now (v := IV.int _) q r (rv_int.mpr rfl)⟩
  · exact q.elim
/-! ### lists of numbers, of truth values -/
def intsOf : List IV → Option (List Int)
  | [] => some []
  | .int i :: r => (intsOf r).map (i :: ·)
  | _ => none
theorem intsOf_ok {ρ : Map} {H : Hp} : ∀ {xs : List IV} {ns : List Int} {vs : List V}, intsOf xs = some ns → RVs C ρ H xs vs → vs = ns.map V.int
  | [], ns, vs, e, h => by
    unfold intsOf at e; cases e
    exact rvs_nil.mp h
  | .int i :: r, ns, vs, e, h => by
    unfold intsOf at e
    obtain ⟨ms, e1, rfl⟩ := Option.map_eq_some_iff.mp e
    obtain ⟨v, q, rfl, h1, h2⟩ := rvs_cons.mp h
    rw [rv_int.mp h1, intsOf_ok e1 h2]
    rfl
  | .non :: _, _, _, e, _ => by unfold intsOf at e; cases e
  | .bl _ :: _, _, _, e, _ => by unfold intsOf at e; cases e
  | .str _ :: _, _, _, e, _ => by unfold intsOf at e; cases e
  | .tup _ :: _, _, _, e, _ => by unfold intsOf at e; cases e
  | .frz _ :: _, _, _, e, _ => by unfold intsOf at e; cases e
  | .ref _ :: _, _, _, e, _ => by unfold intsOf at e; cases e
  | .glo _ :: _, _, _, e, _ => by unfold intsOf at e; cases e
  | .ty _ :: _, _, _, e, _ => by unfold intsOf at e; cases e
def blsOf : List IV → Option (List Bool)
  | [] => some []
  | .bl i :: r => (blsOf r).map (i :: ·)
  | _ => none
theorem blsOf_ok {ρ : Map} {H : Hp} : ∀ {xs : List IV} {ns : List Bool} {vs : List V}, blsOf xs = some ns → RVs C ρ H xs vs → vs = ns.map V.bl
  | [], ns, vs, e, h => by
    unfold blsOf at e; cases e
    exact rvs_nil.mp h
  | .bl i :: r, ns, vs, e, h => by
    unfold blsOf at e
    obtain ⟨ms, e1, rfl⟩ := Option.map_eq_some_iff.mp e
    obtain ⟨v, q, rfl, h1, h2⟩ := rvs_cons.mp h
    rw [rv_bl.mp h1, blsOf_ok e1 h2]
    rfl
  | .non :: _, _, _, e, _ => by unfold blsOf at e; cases e
  | .int _ :: _, _, _, e, _ => by unfold blsOf at e; cases e
  | .str _ :: _, _, _, e, _ => by unfold blsOf at e; cases e
  | .tup _ :: _, _, _, e, _ => by unfold blsOf at e; cases e
  | .frz _ :: _, _, _, e, _ => by unfold blsOf at e; cases e
  | .ref _ :: _, _, _, e, _ => by unfold blsOf at e; cases e
  | .glo _ :: _, _, _, e, _ => by unfold blsOf at e; cases e
  | .ty _ :: _, _, _, e, _ => by unfold blsOf at e; cases e
def cellInts (S : Sto) : IV → Option (List Int)
  | .ref n => (match S.get n with
    | some (.lst xs) => intsOf xs
    | _ => none)
  | _ => none
theorem cellInts_ok {ρ : Map} {S : Sto} {H : Hp} {x : IV} {v : V} {ns : List Int} (r : Rel C ρ S H) (e : cellInts S x = some ns) (h : RV C ρ H x v) : ∃ a, v = .ref a ∧ SqL C.K H a (ns.map V.int) := by
  unfold cellInts at e
  split at e
  · split at e
    · rename_i xs g
      obtain ⟨a, vs, _, e1, e2, e3⟩ := cell_at r h g
      rw [intsOf_ok e e3] at e2
      exact ⟨a, e1, SqL.of e2⟩
    · cases e
  · cases e
def bSum : MF := fun as S => match as with
  | [a] => (match cellInts S a with
    | some ns => .ok (.int ns.sum) S
    | none => .no)
  | _ => .no
theorem bSum_ok : CallF C bSum (rSum C.K) := by
  intro ρ S H as xs Q W r h q
  unfold bSum at q
  split at q
  · obtain ⟨x, rfl, h1⟩ := rvs_one h
    split at q
    · rename_i ns e
      obtain ⟨a, rfl, t⟩ := cellInts_ok r e h1
      exact ⟨a, ns, rfl, t, PR.now (v := IV.int _) q r (rv_int.mpr rfl)⟩
    · exact q.elim
  · exact q.elim
def maxL : Int → List Int → Int
  | m, [] => m
  | m, x :: r => maxL (if m < x then x else m) r
def minL : Int → List Int → Int
  | m, [] => m
  | m, x :: r => minL (if x < m then x else m) r
theorem maxL_ge : ∀ (l : List Int) (m : Int), m ≤ maxL m l ∧ ∀ y ∈ l, y ≤ maxL m l
  | [], m => ⟨Int.le_refl _, fun _ h => absurd h (by simp)⟩
  | x :: r, m => by
    obtain ⟨h1, h2⟩ := maxL_ge r (if m < x then x else m)
    show m ≤ maxL (if m < x then x else m) r ∧ ∀ y ∈ x :: r, y ≤ maxL (if m < x then x else m) r
    have h3 : m ≤ if m < x then x else m := by split <;> omega
    have h4 : x ≤ if m < x then x else m := by split <;> omega
    refine ⟨by omega, fun y hy => ?_⟩
    rcases List.mem_cons.mp hy with rfl | hy
    · omega
    · exact h2 y hy
theorem maxL_mem : ∀ (l : List Int) (m : Int), maxL m l = m ∨ maxL m l ∈ l
  | [], m => .inl rfl
  | x :: r, m => by
    show maxL (if m < x then x else m) r = m ∨ maxL (if m < x then x else m) r ∈ x :: r
    rcases maxL_mem r (if m < x then x else m) with h | h
    · by_cases c : m < x
      · rw [if_pos c] at h ⊢
        exact .inr (by rw [h]; exact List.mem_cons_self)
      · rw [if_neg c] at h ⊢
        exact .inl h
    · exact .inr (List.mem_cons_of_mem _ h)
theorem minL_ge : ∀ (l : List Int) (m : Int), minL m l ≤ m ∧ ∀ y ∈ l, minL m l ≤ y
  | [], m => ⟨Int.le_refl _, fun _ h => absurd h (by simp)⟩
  | x :: r, m => by
    obtain ⟨h1, h2⟩ := minL_ge r (if x < m then x else m)
    show minL (if x < m then x else m) r ≤ m ∧ ∀ y ∈ x :: r, minL (if x < m then x else m) r ≤ y
    have h3 : (if x < m then x else m) ≤ m := by split <;> omega
    have h4 : (if x < m then x else m) ≤ x := by split <;> omega
    refine ⟨by omega, fun y hy => ?_⟩
    rcases List.mem_cons.mp hy with rfl | hy
    · omega
    · exact h2 y hy
theorem minL_mem : ∀ (l : List Int) (m : Int), minL m l = m ∨ minL m l ∈ l
  | [], m => .inl rfl
  | x :: r, m => by
    show minL (if x < m then x else m) r = m ∨ minL (if x < m then x else m) r ∈ x :: r
    rcases minL_mem r (if x < m then x else m) with h | h
    · by_cases c : x < m
      · rw [if_pos c] at h ⊢
        exact .inr (by rw [h]; exact List.mem_cons_self)
      · rw [if_neg c] at h ⊢
        exact .inl h
    · exact .inr (List.mem_cons_of_mem _ h)
def bMax : MF := fun as S => match as with
  | [.int i, .int j] => .ok (.int (if j > i then j else i)) S
  | [a] => (match cellInts S a with
    | some (x :: ns) => .ok (.int (maxL x ns)) S
    | _ => .no)
  | _ => .no
def bMin : MF := fun as S => match as with
  | [.int i, .int j] => .ok (.int (if j < i then j else i)) S
  | [a] => (match cellInts S a with
    | some (x :: ns) => .ok (.int (minL x ns)) S
    | _ => .no)
  | _ => .no
def rMax2 (K : PySem.W.Frag) : List V → Hp → VK → Prop := fun xs H Q => (∃ i j, xs = [.int i, .int j] ∧ Q (.int (if j > i then j else i)) H) ∨ rMax K xs H Q
def rMin2 (K : PySem.W.Frag) : List V → Hp → VK → Prop := fun xs H Q => (∃ i j, xs = [.int i, .int j] ∧ Q (.int (if j < i then j else i)) H) ∨ rMin K xs H Q
theorem call_maxA (hc : X.calm = true) : CallR X (.builtin "max") (rMax2 X.K) := (call_max2 hc).or (cr_max hc)
theorem call_minA (hc : X.calm = true) : CallR X (.builtin "min") (rMin2 X.K) := (call_min2 hc).or (cr_min hc)
theorem bMax_ok : CallF C bMax (rMax2 C.K) := by
  intro ρ S H as xs Q W r h q
  unfold bMax at q
  split at q
  · obtain ⟨x, y, rfl, h1, h2⟩ := rvs_two h
    have e1 := rv_int.mp h1
    have e2 := rv_int.mp h2
    subst e1 e2
    exact .inl ⟨_, _, rfl, PR.now (v := IV.int _) q r (rv_int.mpr rfl)⟩
  · obtain ⟨x, rfl, h1⟩ := rvs_one h
    split at q
    · rename_i z ns e
      obtain ⟨a, rfl, t⟩ := cellInts_ok r e h1
      refine .inr ⟨a, _, rfl, t, Nat.zero_lt_succ _, fun m h3 h4 => ?_⟩
      obtain ⟨g1, g2⟩ := maxL_ge ns z
      have em : m = maxL z ns := by
        have i1 : maxL z ns ≤ m := h4 _ (by
          rcases maxL_mem ns z with e | e
          · rw [e]; exact List.mem_cons_self
          · exact List.mem_cons_of_mem _ e)
        have i2 : m ≤ maxL z ns := by
          rcases List.mem_cons.mp h3 with rfl | h3
          · exact g1
          · exact g2 m h3
        omega
      rw [em]
      exact PR.now (v := IV.int _) q r (rv_int.mpr rfl)
    · exact q.elim
  · exact q.elim
theorem bMin_ok : CallF C bMin (rMin2 C.K) := by
  intro ρ S H as xs Q W r h q
  unfold bMin at q
  split at q
  · obtain ⟨x, y, rfl, h1, h2⟩ := rvs_two h
    have e1 := rv_int.mp h1
    have e2 := rv_int.mp h2
    subst e1 e2
    exact .inl ⟨_, _, rfl, PR.now (v := IV.int _) q r (rv_int.mpr rfl)⟩
  · obtain ⟨x, rfl, h1⟩ := rvs_one h
    split at q
    · rename_i z ns e
      obtain ⟨a, rfl, t⟩ := cellInts_ok r e h1
      refine .inr ⟨a, _, rfl, t, Nat.zero_lt_succ _, fun m h3 h4 => ?_⟩
      obtain ⟨g1, g2⟩ := minL_ge ns z
      have em : m = minL z ns := by
        have i1 : m ≤ minL z ns := h4 _ (by
          rcases minL_mem ns z with e | e
          · rw [e]; exact List.mem_cons_self
          · exact List.mem_cons_of_mem _ e)
        have i2 : minL z ns ≤ m := by
          rcases List.mem_cons.mp h3 with rfl | h3
          · exact g1
          · exact g2 m h3
        omega
      rw [em]
      exact PR.now (v := IV.int _) q r (rv_int.mpr rfl)
    · exact q.elim
  · exact q.elim
def cellBls (S : Sto) : IV → Option (List Bool)
  | .ref n => (match S.get n with
    | some (.lst xs) => blsOf xs
    | _ => none)
  | _ => none
theorem cellBls_ok {ρ : Map} {S : Sto} {H : Hp} {x : IV} {v : V} {ns : List Bool} (r : Rel C ρ S H) (e : cellBls S x = some ns) (h : RV C ρ H x v) : ∃ a, v = .ref a ∧ SqL C.K H a (ns.map V.bl) := by
  unfold cellBls at e
  split at e
  · split at e
    · rename_i xs g
      obtain ⟨a, vs, _, e1, e2, e3⟩ := cell_at r h g
      rw [blsOf_ok e e3] at e2
      exact ⟨a, e1, SqL.of e2⟩
    · cases e
  · cases e
def bAll : MF := fun as S => match as with
  | [a] => (match cellBls S a with
    | some ns => .ok (.bl (ns.all id)) S
    | none => .no)
  | _ => .no
def bAny : MF := fun as S => match as with
  | [a] => (match cellBls S a with
    | some ns => .ok (.bl (ns.any id)) S
    | none => .no)
  | _ => .no
theorem bAll_ok : CallF C bAll (rAll C.K) := by
  intro ρ S H as xs Q W r h q
  unfold bAll at q
  split at q
  · obtain ⟨x, rfl, h1⟩ := rvs_one h
    split at q
    · rename_i ns e
      obtain ⟨a, rfl, t⟩ := cellBls_ok r e h1
      exact ⟨a, ns, rfl, t, PR.now (v := IV.bl _) q r (rv_bl.mpr rfl)⟩
    · exact q.elim
  · exact q.elim
theorem bAny_ok : CallF C bAny (rAny C.K) := by
  intro ρ S H as xs Q W r h q
  unfold bAny at q
  split at q
  · obtain ⟨x, rfl, h1⟩ := rvs_one h
    split at q
    · rename_i ns e
      obtain ⟨a, rfl, t⟩ := cellBls_ok r e h1
      exact ⟨a, ns, rfl, t, PR.now (v := IV.bl _) q r (rv_bl.mpr rfl)⟩
    · exact q.elim
  · exact q.elim
/-! ### tuple, list -/
def bTuple : MF := fun as S => match as with
  | [a] => (match itemsOf S a with
    | some xs => .ok (.tup xs) S
    | none => .no)
  | _ => .no
def bList : MF := fun as S => match as with
  | [a] => (match itemsOf S a with
    | some xs => .ok (.ref S.top) (S.new (.lst xs))
    | none => .no)
  | _ => .no
theorem bTuple_ok : CallF C bTuple (fun xs H Q => ∃ p ys, xs = [.ref p] ∧ ((SqL C.K H p ys ∧ ∀ l, H l = none → Q (.ref l) (upd H l (.tup ys))) ∨ (SqT C.K H p ys ∧ Q (.ref p) H))) := by
  intro ρ S H as xs Q W r h q
  unfold bTuple at q
  split at q
  · obtain ⟨x, rfl, h1⟩ := rvs_one h
    split at q
    · rename_i ys hy
      obtain ⟨p, vs, rfl, t, e⟩ := itemsOf_ok r hy h1
      refine ⟨p, vs, rfl, ?_⟩
      rcases t with t | t
      · refine .inl ⟨t, fun l hl => ?_⟩
        obtain ⟨g1, g2, g3⟩ := new_tup r hl e
        exact q _ _ _ g1 g2 g3
      · exact .inr ⟨t, PR.now (v := IV.tup _) q r (rv_tup.mpr ⟨p, vs, rfl, t, e⟩)⟩
    · exact q.elim
  · exact q.elim
theorem bList_ok : CallF C bList (fun xs H Q => ∃ p ys, xs = [.ref p] ∧ (SqL C.K H p ys ∨ SqT C.K H p ys) ∧ ∀ l, H l = none → Q (.ref l) (upd H l (.lst ys))) := by
  intro ρ S H as xs Q W r h q
  unfold bList at q
  split at q
  · obtain ⟨x, rfl, h1⟩ := rvs_one h
    split at q
    · rename_i ys hy
      obtain ⟨p, vs, rfl, t, e⟩ := itemsOf_ok r hy h1
      refine ⟨p, vs, rfl, t, fun l hl => ?_⟩
      obtain ⟨g1, g2, g3⟩ := new_lst r hl e
      exact q _ _ _ g1 g2 g3
    · exact q.elim
  · exact q.elim
/-! ### gcd, divmod -/
def bGcd : MF := fun as S => match as with
  | [.int a, .int b] => .ok (.int ((Nat.gcd a.natAbs b.natAbs : Nat) : Int)) S
  | _ => .no
theorem bGcd_ok : CallF C bGcd rGcd := by
  intro ρ S H as xs Q W r h q
  unfold bGcd at q
  split at q
  · obtain ⟨x, y, rfl, h1, h2⟩ := rvs_two h
    have e1 := rv_int.mp h1
    have e2 := rv_int.mp h2
    subst e1 e2
    exact ⟨_, _, rfl, PR.now (v := IV.int _) q r (rv_int.mpr rfl)⟩
  · exact q.elim
theorem qe_callFun {x : Str} {id : String} {r : List V → Hp → VK → Prop} {f : MF} {e : Expr} {es : List Expr} {ms : MA} {p pos : Pos} (hc : CallR X (.builtin id) r) (hf : CallF C f r) (hg : Gl X x) (hm : X.mg x = some (.builtin id)) (ha : PA X (e :: es) (tA C ms W)) (hdb : (x == ("__debug__" : Str)) = false := by decide)
    (he : starEach (e :: es) X.env = (false, eval e X.env) :: starEach es X.env := by rfl) (hpl : (backTo pos (starEach es X.env)).any (·.1) = false := by rfl) : PE X (.Call (.Name x p) (e :: es) [] pos) (tI C (mCall f ms) W) :=
  pe_mono (pe_callBfun hc hg hm ha hdb he hpl) fun _ _ _ h => callF_mono hf h
def bDivmod : MF := fun as S => match as with
  | [.int i, .int j] => bif (decide (0 < j) && decide (j < 1073741824)) then .ok (.tup [.int (i / j), .int (i % j)]) S else .no
  | _ => .no
theorem bDivmod_ok : CallF C bDivmod (fun xs H Q => ∃ i j, xs = [.int i, .int j] ∧ CDiv i j ∧ ∀ p, H p = none → Q (.ref p) (upd H p (.tup [.int (i / j), .int (i % j)]))) := by
  intro ρ S H as xs Q W r h q
  unfold bDivmod at q
  split at q
  · rename_i i j
    obtain ⟨x, y, rfl, h1, h2⟩ := rvs_two h
    have e1 := rv_int.mp h1
    have e2 := rv_int.mp h2
    subst e1 e2
    cases z : (decide (0 < j) && decide (j < 1073741824)) with
    | false => rw [z] at q; exact q.elim
    | true =>
      rw [z] at q
      rw [Bool.and_eq_true] at z
      refine ⟨i, j, rfl, ⟨of_decide_eq_true z.1, of_decide_eq_true z.2⟩, fun p hp => ?_⟩
      have e : RVs C ρ H [.int (i / j), .int (i % j)] [.int (i / j), .int (i % j)] := rvs_cons.mpr ⟨_, _, rfl, rv_int.mpr rfl, rvs_cons.mpr ⟨_, _, rfl, rv_int.mpr rfl, rvs_nil.mpr rfl⟩⟩
      obtain ⟨g1, g2, g3⟩ := new_tup r hp e
      exact q _ _ _ g1 g2 g3
  · exact q.elim
/-! ### isinstance of built-in classes -/
def tyOf (S : Sto) : IV → Option BT
  | .non => some .none
  | .bl _ => some .bool
  | .int _ => some .int
  | .str _ => some .str
  | .tup _ => some .tuple
  | .frz _ => some .list
  | .ref n => (match S.get n with
    | some (.lst _) => some .list
    | _ => none)
  | _ => none
def isB : BT → BT → Bool
  | .int, .int => true
  | .bool, .int => true
  | .bool, .bool => true
  | .str, .str => true
  | .tuple, .tuple => true
  | .list, .list => true
  | .dict, .dict => true
  | _, _ => false
theorem isB_ok (a b : BT) (h : b ≠ .none) : kitB a.name b.name = some (isB a b) := by
  cases b with
  | none => exact absurd rfl h
  | int => cases a <;> decide +kernel
  | bool => cases a <;> decide +kernel
  | str => cases a <;> decide +kernel
  | tuple => cases a <;> decide +kernel
  | list => cases a <;> decide +kernel
  | dict => cases a <;> decide +kernel
theorem tyOf_ok {ρ : Map} {S : Sto} {H : Hp} {x : IV} {v : V} {t : BT} (r : Rel C ρ S H) (e : tyOf S x = some t) (h : RV C ρ H x v) : TyX C.K H v (.type t.name) := by
  cases x with
  | non => cases e; rw [rv_non.mp h]; exact .base .non
  | bl _ => cases e; rw [rv_bl.mp h]; exact .base (.bl _)
  | int _ => cases e; rw [rv_int.mp h]; exact .base (.int _)
  | str _ => cases e; rw [rv_str.mp h]; exact .base (.str _)
  | tup xs =>
    cases e
    obtain ⟨a, vs, rfl, t, _⟩ := rv_tup.mp h
    rcases t with (t | ⟨o, t⟩) | ⟨o, its, n, t, c, _⟩
    · exact .base (.tup t)
    · exact .fTuple t
    · exact .kTuple t c
  | frz xs =>
    cases e
    obtain ⟨a, vs, rfl, t, _⟩ := rv_frz.mp h
    rcases t with ⟨o, t⟩ | ⟨o, its, n, t, c, _⟩
    · exact .base (.frz t)
    · exact .kList t c
  | ref n =>
    unfold tyOf at e
    dsimp only at e
    split at e
    · rename_i xs g
      cases e
      obtain ⟨a, vs, _, rfl, t, _⟩ := cell_at r h g
      exact .base (.lst t)
    · cases e
  | glo _ => cases e
  | ty _ => cases e
def noneB : BT → Bool
  | .none => true
  | _ => false
def bIsI : MF := fun as S => match as with
  | [x, .ty n] => (match tyOf S x with
    | some t => bif noneB n then .no else .ok (.bl (isB t n)) S
    | none => .no)
  | _ => .no
theorem bIsI_ok : CallF C bIsI (rIsi C.K) := by
  intro ρ S H as xs Q W r h q
  unfold bIsI at q
  split at q
  · rename_i y n
    obtain ⟨x, c, rfl, h1, h2⟩ := rvs_two h
    have e2 := rv_ty.mp h2
    subst e2
    cases e : tyOf S y with
    | none => rw [e] at q; exact q.elim
    | some t =>
      rw [e] at q
      dsimp only at q
      cases z : noneB n with
      | true => rw [z] at q; exact q.elim
      | false =>
        rw [z] at q
        have hn : n ≠ .none := fun w => by rw [w] at z; cases z
        exact ⟨x, _, _, _, _, rfl, .ty _, tyOf_ok r e h1, kit_ty (isB_ok t n hn), PR.now (v := IV.bl _) q r (rv_bl.mpr rfl)⟩
  · exact q.elim
theorem qe_ty {x : Str} {t : BT} {pos : Pos} (hg : Gl X x) (hm : X.mg x = none) (hv : bootBuiltins x = some (.type t.name)) (hn : x ≠ "__name__" := by decide) (hd : (x == ("__debug__" : Str)) = false := by decide) : PE X (.Name x pos) (tI C (mC (.ty t)) W) :=
  qe_c (pe_bltn (v := .ty t.name) hg hm hv rfl hn hd) fun _ _ => rv_ty.mpr rfl
/-! ### repr of what stands alone -/
def bRepr : MF := fun as S => match as with
  | [.bl b] => .ok (.str (if b then "True" else "False")) S
  | [.non] => .ok (.str "None") S
  | [.int i] => bif Nat.blt i.natAbs.log2 1920 then .ok (.str (toString i)) S else .no
  | _ => .no
def rRepr : List V → Hp → VK → Prop := fun xs H Q => (∃ b, xs = [.bl b] ∧ Q (.str (if b then "True" else "False")) H) ∨ (xs = [.non] ∧ Q (.str "None") H) ∨ ∃ i : Int, xs = [.int i] ∧ i.natAbs.log2 < 1920 ∧ Q (.str (toString i)) H
theorem call_reprA : CallR X (.builtin "repr") rRepr := by
  intro pins s σ H xs us Q I r h
  rcases h with ⟨b, rfl, q⟩ | ⟨rfl, q⟩ | ⟨i, rfl, hz, q⟩
  · obtain ⟨u, rfl, r1⟩ := vals1 r
    cases (show u = Value.bool b from r1)
    exact PySem.P.repr_of_bool ⟨.str _, H, I.tok _, ⟨_, rfl⟩, q⟩
  · obtain ⟨u, rfl, r1⟩ := vals1 r
    cases (show u = Value.none from r1)
    exact PySem.P.repr_of_none ⟨.str _, H, I.tok _, ⟨_, rfl⟩, q⟩
  · obtain ⟨u, rfl, t, rfl⟩ := vals1 r
    exact PySem.P.repr_of_int hz ⟨.str _, H, I.tok _, ⟨_, rfl⟩, q⟩
theorem bRepr_ok : CallF C bRepr rRepr := by
  intro ρ S H as xs Q W r h q
  unfold bRepr at q
  split at q
  · obtain ⟨x, rfl, h1⟩ := rvs_one h
    have e := rv_bl.mp h1
    subst e
    exact .inl ⟨_, rfl, PR.now (v := IV.str _) q r (rv_str.mpr rfl)⟩
  · obtain ⟨x, rfl, h1⟩ := rvs_one h
    have e := rv_non.mp h1
    subst e
    exact .inr (.inl ⟨rfl, PR.now (v := IV.str _) q r (rv_str.mpr rfl)⟩)
  · rename_i i
    obtain ⟨x, rfl, h1⟩ := rvs_one h
    have e := rv_int.mp h1
    subst e
    cases z : Nat.blt i.natAbs.log2 1920 with
    | false => rw [z] at q; exact q.elim
    | true =>
      rw [z] at q
      exact .inr (.inr ⟨i, rfl, Nat.le_of_ble_eq_true z, PR.now (v := IV.str _) q r (rv_str.mpr rfl)⟩)
  · exact q.elim
end
end FX

set_option Elab.async false
set_option linter.all false
set_option maxRecDepth 100000
set_option maxHeartbeats 2000000
set_option autoImplicit false
/-! FX6: statements, targets, loops. -/
namespace FX
open PySem PySem.Spec PyProof.Rows L2
inductive Fl where
  | nx (E : Env') (S : Sto)
  | rt (v : IV) (S : Sto)
  | bk (E : Env') (S : Sto)
  | ct (E : Env') (S : Sto)
  | ex (e : Ex) (E : Env') (S : Sto)
  | no
abbrev MS := Env' → Sto → Fl
def PF (C : Wd) (r : Fl) (ρ : Map) (S : Sto) (H : Hp) (D : Ends) (W : WX) : Prop := match r with
  | .nx E' S' => ∀ ρ' H' σ', Ext ρ S H ρ' S' H' → Rel C ρ' S' H' → RE C ρ' H' E' σ' → D.nx σ' H'
  | .rt v S' => ∀ ρ' H' x, Ext ρ S H ρ' S' H' → Rel C ρ' S' H' → RV C ρ' H' v x → D.rt x H'
  | .bk E' S' => ∀ ρ' H' σ', Ext ρ S H ρ' S' H' → Rel C ρ' S' H' → RE C ρ' H' E' σ' → D.bk σ' H'
  | .ct E' S' => ∀ ρ' H' σ', Ext ρ S H ρ' S' H' → Rel C ρ' S' H' → RE C ρ' H' E' σ' → D.ct σ' H'
  | .ex e E' S' => ∀ ρ' H' σ' cls d, Ext ρ S H ρ' S' H' → Rel C ρ' S' H' → RE C ρ' H' E' σ' → RX C ρ' H' e cls d → W cls d σ' H'
  | .no => False
theorem PF.ext {C : Wd} {r : Fl} {ρ ρ1 : Map} {S S1 : Sto} {H H1 : Hp} {D : Ends} {W : WX} (h : PF C r ρ S H D W) (e1 : Ext ρ S H ρ1 S1 H1) : PF C r ρ1 S1 H1 D W := by
  cases r with
  | nx E' S' => exact fun ρ2 H2 σ2 e2 r2 q2 => h ρ2 H2 σ2 (e1.trans e2) r2 q2
  | rt v S' => exact fun ρ2 H2 σ2 e2 r2 q2 => h ρ2 H2 σ2 (e1.trans e2) r2 q2
  | bk E' S' => exact fun ρ2 H2 σ2 e2 r2 q2 => h ρ2 H2 σ2 (e1.trans e2) r2 q2
  | ct E' S' => exact fun ρ2 H2 σ2 e2 r2 q2 => h ρ2 H2 σ2 (e1.trans e2) r2 q2
  | ex e E' S' => exact fun ρ2 H2 σ2 c d e2 r2 q2 => h ρ2 H2 σ2 c d (e1.trans e2) r2 q2
  | no => exact h
def tS (C : Wd) (m : MS) (W : WX) : TS := fun D σ H => ∃ ρ E S, RE C ρ H E σ ∧ Rel C ρ S H ∧ PF C (m E S) ρ S H D W
/-- an expression, then .. -/
def R.to {α : Type} (r : R α) (E : Env') (k : α → Sto → Fl) : Fl := match r with
  | .ok a S => k a S
  | .ex e S => .ex e E S
  | .no => .no
theorem PF.to {C : Wd} {α β : Type} {rel : Map → Hp → α → β → Prop} {r : R α} {E : Env'} {k : α → Sto → Fl} {ρ : Map} {S : Sto} {H : Hp} {D : Ends} {W : WX} {σ : L2.St} (q : RE C ρ H E σ) (r0 : Rel C ρ S H)
    (h : PF C (r.to E k) ρ S H D W) : PR C rel r ρ S H (fun x H1 => ∃ ρ1 v S1, Ext ρ S H ρ1 S1 H1 ∧ Rel C ρ1 S1 H1 ∧ rel ρ1 H1 v x ∧ PF C (k v S1) ρ1 S1 H1 D W) (fun c d H' => W c d σ H') := by
  cases r with
  | ok v S1 => exact fun ρ1 H1 x e1 r1 q1 => ⟨ρ1, v, S1, e1, r1, q1, PF.ext h e1⟩
  | ex e S1 => exact fun ρ1 H1 c d e1 r1 q1 => h ρ1 H1 σ c d e1 r1 (q.ext e1 r0) q1
  | no => exact h
section
variable {X : Cx} {C : Wd} {W : WX}
theorem ps_mono {e : Stmt} {t t' : TS} (h : PS X e t) (m : ∀ D σ H, t' D σ H → t D σ H) : PS X e t' := ⟨fun pins s σ H D I q => h.run pins s σ H D I (m _ _ _ q)⟩
theorem pss_mono {e : List Stmt} {t t' : TS} (h : PSs X e t) (m : ∀ D σ H, t' D σ H → t D σ H) : PSs X e t' := ⟨fun pins s σ H D I q => h.run pins s σ H D I (m _ _ _ q)⟩
def mSkip : MS := fun E S => .nx E S
def mBrk : MS := fun E S => .bk E S
def mCont : MS := fun E S => .ct E S
def mStuck : MS := fun _ _ => .no
def mSeq (a b : MS) : MS := fun E S => match a E S with
  | .nx E' S' => b E' S'
  | .rt v S' => .rt v S'
  | .bk E' S' => .bk E' S'
  | .ct E' S' => .ct E' S'
  | .ex e E' S' => .ex e E' S'
  | .no => .no
theorem PF.nxt {E : Env'} {S : Sto} {ρ : Map} {H : Hp} {D : Ends} {σ : L2.St} (h : PF C (.nx E S) ρ S H D W) (q : RE C ρ H E σ) (r : Rel C ρ S H) : D.nx σ H := h ρ H σ r.refl r q
theorem qs_nil : PSs X [] (tS C mSkip W) := pss_mono pss_nil fun D σ H ⟨ρ, E, S, q, r, h⟩ => PF.nxt h q r
theorem qs_pass {pos : Pos} : PS X (.Pass pos) (tS C mSkip W) := ps_mono ps_pass fun D σ H ⟨ρ, E, S, q, r, h⟩ => PF.nxt h q r
theorem qs_break {pos : Pos} : PS X (.Break pos) (tS C mBrk W) := ps_mono ps_break fun D σ H ⟨ρ, E, S, q, r, h⟩ => h ρ H σ r.refl r q
theorem qs_cont {pos : Pos} : PS X (.Continue pos) (tS C mCont W) := ps_mono ps_continue fun D σ H ⟨ρ, E, S, q, r, h⟩ => h ρ H σ r.refl r q
theorem qs_stuck {st : Stmt} : PS X st (tS C mStuck W) := ps_mono ps_never fun D σ H ⟨ρ, E, S, q, r, h⟩ => h.elim
theorem qs_one {st : Stmt} {m : MS} (h : PS X st (tS C m W)) : PSs X [st] (tS C m W) := pss_one h
theorem qs_cons {st : Stmt} {rest : List Stmt} {a b : MS} (h1 : PS X st (tS C a W)) (h2 : PSs X rest (tS C b W)) : PSs X (st :: rest) (tS C (mSeq a b) W) :=
  pss_mono (pss_cons h1 h2) fun D σ H h => by
    obtain ⟨ρ, E, S, q, r, h⟩ := h
    refine ⟨ρ, E, S, q, r, ?_⟩
    unfold mSeq at h
    cases e : a E S with
    | nx E' S' =>
      rw [e] at h
      exact fun ρ1 H1 σ1 e1 r1 q1 => ⟨ρ1, E', S', q1, r1, PF.ext h e1⟩
    | rt v S' => rw [e] at h; exact h
    | bk E' S' => rw [e] at h; exact h
    | ct E' S' => rw [e] at h; exact h
    | ex x E' S' => rw [e] at h; exact h
    | no => rw [e] at h; exact h
/-! ### small statements -/
def mDrop (m : ME) : MS := fun E S => (m E S).to E fun _ S1 => .nx E S1
theorem qs_expr {e : Expr} {m : ME} {pos : Pos} (he : PE X e (tI C m W)) (hs : swapsWith e none pos.line X.env = pure false := by rfl) : PS X (.Expr e pos) (tS C (mDrop m) W) :=
  ps_mono (ps_expr he hs) fun D σ H h => by
    obtain ⟨ρ, E, S, q, r, h⟩ := h
    exact ⟨ρ, E, S, q, r, PR.mono (PF.to (rel := RV C) q r h) (fun x H1 ⟨ρ1, v, S1, e1, r1, x1, h1⟩ => PF.nxt h1 (q.ext e1 r) r1) fun _ _ _ z => z⟩
def mRet (m : ME) : MS := fun E S => (m E S).to E fun v S1 => .rt v S1
theorem qs_ret {e : Expr} {m : ME} {pos : Pos} (he : PE X e (tI C m W)) : PS X (.Return (some e) pos) (tS C (mRet m) W) :=
  ps_mono (ps_ret he) fun D σ H h => by
    obtain ⟨ρ, E, S, q, r, h⟩ := h
    exact ⟨ρ, E, S, q, r, PR.mono (PF.to (rel := RV C) q r h) (fun x H1 ⟨ρ1, v, S1, e1, r1, x1, h1⟩ => h1 ρ1 H1 x r1.refl r1 x1) fun _ _ _ z => z⟩
def mRetN : MS := fun _ S => .rt .non S
theorem qs_retN {pos : Pos} : PS X (.Return none pos) (tS C mRetN W) := ps_mono ps_retN fun D σ H ⟨ρ, E, S, q, r, h⟩ => h ρ H .non r.refl r (rv_non.mpr rfl)
def mIfS (t : MT) (a b : MS) : MS := fun E S => (t E S).to E fun c S1 => bif c then a E S1 else b E S1
theorem qs_if {c : Expr} {p q : List Stmt} {t : MT} {a b : MS} {pos : Pos} (hc : PT X c (tT C t W)) (ha : PSs X p (tS C a W)) (hb : PSs X q (tS C b W)) : PS X (.If c p q pos) (tS C (mIfS t a b) W) :=
  ps_mono (ps_if hc ha hb) fun D σ H h => by
    obtain ⟨ρ, E, S, q, r, h⟩ := h
    refine ⟨ρ, E, S, q, r, PR.mono (PF.to (rel := relB) q r h) (fun x H1 ⟨ρ1, v, S1, e1, r1, x1, h1⟩ => ?_) fun _ _ _ z => z⟩
    cases x1
    cases x with
    | true => exact ⟨ρ1, E, S1, q.ext e1 r, r1, h1⟩
    | false => exact ⟨ρ1, E, S1, q.ext e1 r, r1, h1⟩
def mSet (i : Nat) (m : ME) : MS := fun E S => (m E S).to E fun v S1 => .nx (E.set i (some v)) S1
theorem qs_set {i : Nat} {x : Str} {e : Expr} {m : ME} {pos pos' : Pos} (hN : X.N.Nodup) (hi : X.N[i]? = some x) (hx : Loc X.env.scope x) (he : PE X e (tI C m W)) (hs : swapsWith e (some (.Name x pos')) pos.line X.env = pure false := by rfl) (hf : X.fn x = true ∨ X.env.scope.names.lookup x = some .local := by first | exact .inl rfl | exact .inr rfl | assumption) :
    PS X (.Assign [.Name x pos'] e pos) (tS C (mSet i m) W) :=
  ps_mono (ps_set hN hi hx he hs hf) fun D σ H h => by
    obtain ⟨ρ, E, S, q, r, h⟩ := h
    exact ⟨ρ, E, S, q, r, PR.mono (PF.to (rel := RV C) q r h) (fun x H1 ⟨ρ1, v, S1, e1, r1, x1, h1⟩ => PF.nxt h1 ((q.ext e1 r).set i x1) r1) fun _ _ _ z => z⟩
def mPar (i j : Nat) (ms : MA) : MS := fun E S => (ms E S).to E fun vs S1 => match vs with
  | [v, w] => .nx ((E.set i (some v)).set j (some w)) S1
  | _ => .no
theorem qs_par {i j : Nat} {x y : Str} {a b : Expr} {ms : MA} {px py pt pos : Pos} {kt k2 pt2} (hc : X.calm = true) (hN : X.N.Nodup) (hi : X.N[i]? = some x) (hj : X.N[j]? = some y) (hij : i ≠ j)
    (hx : X.env.scope.names.lookup x = some .local) (hy : X.env.scope.names.lookup y = some .local) (ha : PA X [a, b] (tA C ms W))
    (hw : swappedStores [.Tuple [.Name x px, .Name y py] kt pt] (.Tuple [a, b] k2 pt2) X.env = pure (some [x, y]))
    (hs : swapsWithSole [.Tuple [.Name x px, .Name y py] kt pt] (.Tuple [a, b] k2 pt2) pos.line X.env = pure false := by rfl) :
    PS X (.Assign [.Tuple [.Name x px, .Name y py] kt pt] (.Tuple [a, b] k2 pt2) pos) (tS C (mPar i j ms) W) :=
  ps_mono (ps_par hc hN hi hj hij hx hy ha hw hs) fun D σ H h => by
    obtain ⟨ρ, E, S, q, r, h⟩ := h
    refine ⟨ρ, E, S, q, r, PR.mono (PF.to (rel := RVs C) q r h) (fun x H1 ⟨ρ1, v, S1, e1, r1, x1, h1⟩ => ?_) fun _ _ _ z => z⟩
    split at h1
    · obtain ⟨u, w, rfl, g1, g2⟩ := rvs_two x1
      exact ⟨u, w, rfl, PF.nxt h1 (((q.ext e1 r).set i g1).set j g2) r1⟩
    · exact h1.elim
theorem rvs_three {ρ : Map} {H : Hp} {a b c : IV} {xs : List V} (h : RVs C ρ H [a, b, c] xs) : ∃ x y z, xs = [x, y, z] ∧ RV C ρ H a x ∧ RV C ρ H b y ∧ RV C ρ H c z := by
  obtain ⟨v, r, rfl, h1, h2⟩ := rvs_cons.mp h
  obtain ⟨y, z, rfl, h3, h4⟩ := rvs_two h2
  exact ⟨v, y, z, rfl, h1, h3, h4⟩
def mPar3 (i j l : Nat) (ms : MA) : MS := fun E S => (ms E S).to E fun vs S1 => match vs with
  | [v, w, u] => .nx (((E.set i (some v)).set j (some w)).set l (some u)) S1
  | _ => .no
theorem qs_par3 {i j l : Nat} {x y z : Str} {a b c : Expr} {ms : MA} {px py pz pt pos : Pos} {kt k2 pt2} (hc : X.calm = true) (hN : X.N.Nodup) (hi : X.N[i]? = some x) (hj : X.N[j]? = some y) (hl : X.N[l]? = some z) (hij : i ≠ j) (hil : i ≠ l) (hjl : j ≠ l)
    (hx : X.env.scope.names.lookup x = some .local) (hy : X.env.scope.names.lookup y = some .local) (hz : X.env.scope.names.lookup z = some .local) (ha : PA X [a, b, c] (tA C ms W))
    (hw : swappedStores [.Tuple [.Name x px, .Name y py, .Name z pz] kt pt] (.Tuple [a, b, c] k2 pt2) X.env = pure (some [x, y, z]))
    (hs : swapsWithSole [.Tuple [.Name x px, .Name y py, .Name z pz] kt pt] (.Tuple [a, b, c] k2 pt2) pos.line X.env = pure false := by rfl) :
    PS X (.Assign [.Tuple [.Name x px, .Name y py, .Name z pz] kt pt] (.Tuple [a, b, c] k2 pt2) pos) (tS C (mPar3 i j l ms) W) :=
  ps_mono (ps_par3 hc hN hi hj hl hij hil hjl hx hy hz ha hw hs) fun D σ H h => by
    obtain ⟨ρ, E, S, q, r, h⟩ := h
    refine ⟨ρ, E, S, q, r, PR.mono (PF.to (rel := RVs C) q r h) (fun x H1 ⟨ρ1, v, S1, e1, r1, x1, h1⟩ => ?_) fun _ _ _ z => z⟩
    split at h1
    · obtain ⟨u, w, t, rfl, g1, g2, g3⟩ := rvs_three x1
      exact ⟨u, w, t, rfl, PF.nxt h1 ((((q.ext e1 r).set i g1).set j g2).set l g3) r1⟩
    · exact h1.elim
/-! ### targets -/
inductive Tg where
  | name (i : Nat)
  | tup (ts : List Tg)
mutual
def Tg.slots : Tg → List Nat
  | .name i => [i]
  | .tup ts => Tg.slotss ts
def Tg.slotss : List Tg → List Nat
  | [] => []
  | t :: ts => t.slots ++ Tg.slotss ts
end
mutual
def bindT : Tg → IV → Env' → Option Env'
  | .name i, v, E => some (E.set i (some v))
  | .tup ts, .tup vs, E => bindTs ts vs E
  | .tup _, _, _ => none
def bindTs : List Tg → List IV → Env' → Option Env'
  | [], [], E => some E
  | t :: ts, v :: vs, E => match bindT t v E with
    | some E' => bindTs ts vs E'
    | none => none
  | _, _, _ => none
end
def OnlyAt (σ σ' : L2.St) (l : List Nat) : Prop := σ'.length = σ.length ∧ ∀ j, j ∉ l → σ'[j]? = σ[j]?
def gI (C : Wd) (b : Tg) : TG := fun x σ H Q => ∃ ρ E S v E', RE C ρ H E σ ∧ Rel C ρ S H ∧ RV C ρ H v x ∧ bindT b v E = some E' ∧ ∀ σ', RE C ρ H E' σ' → OnlyAt σ σ' b.slots → Q σ' H
def gsI (C : Wd) (bs : List Tg) : TGs := fun xs σ H Q => ∃ ρ E S vs E', RE C ρ H E σ ∧ Rel C ρ S H ∧ RVs C ρ H vs xs ∧ bindTs bs vs E = some E' ∧ ∀ σ', RE C ρ H E' σ' → OnlyAt σ σ' (Tg.slotss bs) → Q σ' H
theorem pg_mono {e : Expr} {t t' : TG} (h : PG X e t) (m : ∀ v σ H Q, t' v σ H Q → t v σ H Q) : PG X e t' := ⟨fun pins s σ H v u Q I r q => h.run pins s σ H v u Q I r (m _ _ _ _ q)⟩
theorem pgs_mono {e : List Expr} {t t' : TGs} (h : PGs X e t) (m : ∀ v σ H Q, t' v σ H Q → t v σ H Q) : PGs X e t' := ⟨fun pins s σ H v u Q I r q => h.run pins s σ H v u Q I r (m _ _ _ _ q)⟩
theorem onlyAt_set (σ : L2.St) (i : Nat) (v : Option V) : OnlyAt σ (σ.set i v) [i] := ⟨by simp, fun j hj => by
  rw [List.getElem?_set_ne]
  intro z
  exact hj (by simp [z])⟩
theorem OnlyAt.trans {σ σ1 σ2 : L2.St} {l m : List Nat} (a : OnlyAt σ σ1 l) (b : OnlyAt σ1 σ2 m) : OnlyAt σ σ2 (l ++ m) := ⟨b.1.trans a.1, fun j hj => by
  rw [List.mem_append] at hj
  rw [b.2 j fun z => hj (.inr z), a.2 j fun z => hj (.inl z)]⟩
theorem qg_name {i : Nat} {x : Str} {pos : Pos} (hN : X.N.Nodup) (hi : X.N[i]? = some x) (hx : Loc X.env.scope x) (hf : X.fn x = true ∨ X.env.scope.names.lookup x = some .local := by first | exact .inl rfl | exact .inr rfl | assumption) : PG X (.Name x pos) (gI C (.name i)) :=
  pg_mono (pg_name hN hi hx hf) fun x σ H Q h => by
    obtain ⟨ρ, E, S, v, E', q, r, hv, e, h⟩ := h
    unfold bindT at e
    cases e
    exact h _ (q.set i hv) (onlyAt_set σ i _)
theorem qgs_nil : PGs X [] (gsI C []) := pgs_mono pgs_nil fun xs σ H Q h => by
  obtain ⟨ρ, E, S, vs, E', q, r, hv, e, h⟩ := h
  cases vs with
  | nil =>
    unfold bindTs at e
    cases e
    exact ⟨rvs_nil.mp hv, h σ q ⟨rfl, fun _ _ => rfl⟩⟩
  | cons v vs => unfold bindTs at e; cases e
theorem qgs_cons {e : Expr} {es : List Expr} {b : Tg} {bs : List Tg} (h1 : PG X e (gI C b)) (h2 : PGs X es (gsI C bs))
    (hs : (assignEach (e :: es) X.env).map (·.2) = assign e X.env :: (assignEach es X.env).map (·.2) := by rfl) : PGs X (e :: es) (gsI C (b :: bs)) := pgs_mono (pgs_cons h1 h2 hs) fun xs σ H Q h => by
  obtain ⟨ρ, E, S, vs, E', q, r, hv, e, h⟩ := h
  cases vs with
  | nil => unfold bindTs at e; cases e
  | cons v vs =>
    obtain ⟨x, xr, rfl, g1, g2⟩ := rvs_cons.mp hv
    unfold bindTs at e
    cases e1 : bindT b v E with
    | none => rw [e1] at e; cases e
    | some E1 =>
      rw [e1] at e
      refine ⟨x, xr, rfl, ρ, E, S, v, E1, q, r, g1, e1, fun σ1 q1 o1 => ?_⟩
      exact ⟨ρ, E1, S, vs, E', q1, r, g2, e, fun σ2 q2 o2 => h σ2 q2 (o1.trans o2)⟩
theorem qg_tup {es : List Expr} {k : Nat} {bs : List Tg} {n : Nat} {pos : Pos} (hK : X.K = C.K) (hc : X.calm = true) (h : PGs X es (gsI C bs)) (hb : bs.length = n)
    (hn : (assignEach es X.env).length = n := by rfl) (hst : (assignEach es X.env).findIdx? (·.1) = none := by rfl) : PG X (.Tuple es k pos) (gI C (.tup bs)) := pg_mono (pg_tup hc h hn hst) fun x σ H Q h => by
  obtain ⟨ρ, E, S, v, E', q, r, hv, e, h⟩ := h
  cases v with
  | tup vs =>
    unfold bindT at e
    obtain ⟨a, ws, rfl, t, w⟩ := rv_tup.mp hv
    refine ⟨a, ws, rfl, by rw [hK]; exact t, ?_, ρ, E, S, vs, E', q, r, w, e, h⟩
    rw [w.length]
    have : ∀ (bs : List Tg) (vs : List IV) (E E' : Env'), bindTs bs vs E = some E' → vs.length = bs.length := by
      intro bs
      induction bs with
      | nil =>
        intro vs E E' e
        cases vs with
        | nil => rfl
        | cons v vs => unfold bindTs at e; cases e
      | cons b bs ih =>
        intro vs E E' e
        cases vs with
        | nil => unfold bindTs at e; cases e
        | cons v vs =>
          unfold bindTs at e
          cases e1 : bindT b v E with
          | none => rw [e1] at e; cases e
          | some E1 =>
            rw [e1] at e
            simp [ih vs E1 E' e]
    rw [this bs vs E E' e, hb]
  | _ => unfold bindT at e; cases e
/-- targets = e -/
def mAsg (b : Tg) (m : ME) : MS := fun E S => (m E S).to E fun v S1 => match bindT b v E with
  | some E' => .nx E' S1
  | none => .no
theorem qs_asg {tg e : Expr} {m : ME} {b : Tg} {pos : Pos} (he : PE X e (tI C m W)) (hg : PG X tg (gI C b)) (hs : swapsWithSole [tg] e pos.line X.env = pure false := by rfl) (hw : swappedStores [tg] e X.env = pure none := by rfl)
    (h1 : (assignEach [tg] X.env).map (·.2) = [assign tg X.env] := by rfl) : PS X (.Assign [tg] e pos) (tS C (mAsg b m) W) :=
  ps_mono (ps_asg he hg hs hw h1) fun D σ H h => by
    obtain ⟨ρ, E, S, q, r, h⟩ := h
    refine ⟨ρ, E, S, q, r, PR.mono (PF.to (rel := RV C) q r h) (fun x H1 ⟨ρ1, v, S1, e1, r1, x1, h1⟩ => ?_) fun _ _ _ z => z⟩
    cases e2 : bindT b v E with
    | none => rw [e2] at h1; exact h1.elim
    | some E' =>
      rw [e2] at h1
      exact ⟨ρ1, E, S1, v, E', q.ext e1 r, r1, x1, e2, fun σ' q' _ => PF.nxt h1 q' r1⟩
/-- o[i] = e -/
def fPut (o i v : IV) (S : Sto) : Option Sto := match o, i with
  | .ref n, .int k => (match S.get n with
    | some (.lst xs) => (match ixN xs.length k with
      | some j => some (S.put n (.lst (xs.set j v)))
      | none => none)
    | _ => none)
  | _, _ => none
theorem fPut_ok {o i v : IV} {S S' : Sto} {ρ : Map} {H : Hp} {x y z : V} {Q : Hp → Prop} (r : Rel C ρ S H) (ho : RV C ρ H o x) (hi : RV C ρ H i y) (hv : RV C ρ H v z) (e : fPut o i v S = some S')
    (h : ∀ H', Ext ρ S H ρ S' H' → Rel C ρ S' H' → Q H') : rSetL x y z H Q := by
  unfold fPut at e
  split at e
  · rename_i n k
    split at e
    · rename_i xs g
      obtain ⟨a, vs, h1, h2, h3, h4⟩ := cell_at r ho g
      split at e
      · rename_i j hj
        cases e
        obtain ⟨e1, r1⟩ := put_lst r g h1 h3 (h4.set j hv)
        exact ⟨a, vs, k, j, h2, rv_int.mp hi, h3, by rw [h4.length]; exact hj, h _ e1 r1⟩
      · cases e
    · cases e
  · cases e
def mPut (o i m : ME) : MS := fun E S => (m E S).to E fun v S1 => (o E S1).to E fun a S2 => (i E S2).to E fun b S3 => match fPut a b v S3 with
  | some S4 => .nx E S4
  | none => .no
theorem qs_put {o i e : Expr} {mo mi m : ME} {pos pos2 : Pos} (ho : PE X o (tI C mo W)) (hi : PE X i (tI C mi W)) (he : PE X e (tI C m W))
    (ha : ∀ v, assign (.Subscript o i pos) X.env v = (do
      let ov ← holding [v] (eval o X.env)
      let iv ← holding [v, ov] (eval i X.env)
      standAt pos
      holding [v, ov, iv] (setItem ov iv v)
      release [v, ov, iv] []) := by intro _; rfl) (hs : swapsWithSole [.Subscript o i pos] e pos2.line X.env = pure false := by rfl) (hw : swappedStores [.Subscript o i pos] e X.env = pure none := by rfl)
    (h1 : (assignEach [.Subscript o i pos] X.env).map (·.2) = [assign (.Subscript o i pos) X.env] := by rfl) : PS X (.Assign [.Subscript o i pos] e pos2) (tS C (mPut mo mi m) W) :=
  ps_mono (ps_asg he (pg_sub ho hi set_list ha) hs hw h1) fun D σ H h => by
    obtain ⟨ρ, E, S, q, r, h⟩ := h
    refine ⟨ρ, E, S, q, r, PR.mono (PF.to (rel := RV C) q r h) (fun x H1 ⟨ρ1, v, S1, e1, r1, x1, h1⟩ => ?_) fun _ _ _ z => z⟩
    refine ⟨ρ1, E, S1, q.ext e1 r, r1, PR.mono (PF.to (rel := RV C) (q.ext e1 r) r1 h1) (fun y H2 ⟨ρ2, a, S2, e2, r2, x2, h2⟩ => ?_) fun _ _ _ z => z⟩
    refine ⟨ρ2, E, S2, (q.ext e1 r).ext e2 r1, r2, PR.mono (PF.to (rel := RV C) ((q.ext e1 r).ext e2 r1) r2 h2) (fun z H3 ⟨ρ3, b, S3, e3, r3, x3, h3⟩ => ?_) fun _ _ _ z => z⟩
    cases e4 : fPut a b v S3 with
    | none => rw [e4] at h3; exact h3.elim
    | some S4 =>
      rw [e4] at h3
      refine fPut_ok r3 (x2.ext e3 r2) x3 ((x1.ext e2 r1).ext e3 r2) e4 fun H4 e5 r5 => ?_
      exact h3 ρ3 H4 σ e5 r5 ((((q.ext e1 r).ext e2 r1).ext e3 r2).ext e5 r3)
/-- name op= e -/
def mAug (i : Nat) (f : MO) (m : ME) : MS := fun E S => match E[i]? with
  | some (some x) => (m E S).to E fun y S1 => (f x y S1).to E fun z S2 => .nx (E.set i (some z)) S2
  | _ => .no
theorem qs_aug {i : Nat} {x : Str} {e : Expr} {m : ME} {op : Operator} {f : MO} {ti : TIp} {pos pos' : Pos} (hN : X.N.Nodup) (hi : X.N[i]? = some x) (hx : Loc X.env.scope x) (he : PE X e (tI C m W)) (ho : PIp X op ti) (hfo : OpF C f ti) (hf : X.fn x = true ∨ X.env.scope.names.lookup x = some .local := by first | exact .inl rfl | exact .inr rfl | assumption) :
    PS X (.AugAssign (.Name x pos') op e pos) (tS C (mAug i f m) W) :=
  ps_mono (ps_aug hN hi hx he ho hf) fun D σ H h => by
    obtain ⟨ρ, E, S, q, r, h⟩ := h
    unfold mAug at h
    cases e0 : E[i]? with
    | none => rw [e0] at h; exact h.elim
    | some o =>
      cases o with
      | none => rw [e0] at h; exact h.elim
      | some v0 =>
        rw [e0] at h
        obtain ⟨x0, g1, g2⟩ := q.at_ i v0 e0
        refine ⟨x0, g1, ρ, E, S, q, r, PR.mono (PF.to (rel := RV C) q r h) (fun y H1 ⟨ρ1, v, S1, e1, r1, x1, h1⟩ => ?_) fun _ _ _ z => z⟩
        exact hfo ρ1 S1 H1 v0 v x0 y _ _ r1 (g2.ext e1 r) x1 (PR.mono (PF.to (rel := RV C) (q.ext e1 r) r1 h1) (fun z H2 ⟨ρ2, w, S2, e2, r2, x2, h2⟩ => PF.nxt h2 (((q.ext e1 r).ext e2 r1).set i x2) r2) fun _ _ _ z => z)
theorem ip_of {op : Operator} {r : R2} (h : OpR X (inplaceOp op) r) : PIp X op r := fun pins s σ H x y v u Q I r1 r2 q => h pins s σ H x y v u Q I r1 r2 q
/-! ### while -/
def mWhile (t : MT) (b : MS) : Nat → MS
  | 0 => fun _ _ => .no
  | n + 1 => fun E S => (t E S).to E fun c S1 => bif c then (match b E S1 with
    | .nx E2 S2 => mWhile t b n E2 S2
    | .ct E2 S2 => mWhile t b n E2 S2
    | .bk E2 S2 => .nx E2 S2
    | .rt v S2 => .rt v S2
    | .ex e E2 S2 => .ex e E2 S2
    | .no => .no) else .nx E S1
theorem qs_while {c : Expr} {body : List Stmt} {t : MT} {b : MS} {pos : Pos} (n : Nat) (hp : PassesOwn (model X.prog X.w) X.A X.env X.xe) (hc : PT X c (tT C t W)) (hb : PSs X body (tS C b W)) : PS X (.While c body [] pos) (tS C (mWhile t b n) W) :=
  ps_mono (ps_while hp hc hb) fun D σ H h => by
    refine ⟨fun m σ H => ∃ ρ E S, RE C ρ H E σ ∧ Rel C ρ S H ∧ PF C (mWhile t b m E S) ρ S H D W, ⟨n, h⟩, ?_⟩
    intro m σ H h
    obtain ⟨ρ, E, S, q, r, h⟩ := h
    cases m with
    | zero => exact h.elim
    | succ m =>
      unfold mWhile at h
      refine ⟨ρ, E, S, q, r, PR.mono (PF.to (rel := relB) q r h) (fun x H1 ⟨ρ1, v, S1, e1, r1, x1, h1⟩ => ?_) fun _ _ _ z => z⟩
      cases x1
      cases x with
      | false =>
        rw [if_neg Bool.false_ne_true]
        exact PF.nxt h1 (q.ext e1 r) r1
      | true =>
        rw [if_pos rfl]
        refine ⟨fun σ' H' => ∃ ρ E S, RE C ρ H' E σ' ∧ Rel C ρ S H' ∧ PF C (mWhile t b m E S) ρ S H' D W, fun σ' H' z => ⟨m, Nat.lt_succ_self m, z⟩, ρ1, E, S1, q.ext e1 r, r1, ?_⟩
        dsimp only [cond_true] at h1
        cases e2 : b E S1 with
        | nx E2 S2 => rw [e2] at h1; exact fun ρ2 H2 σ2 e3 r2 q2 => ⟨ρ2, E2, S2, q2, r2, PF.ext h1 e3⟩
        | ct E2 S2 => rw [e2] at h1; exact fun ρ2 H2 σ2 e3 r2 q2 => ⟨ρ2, E2, S2, q2, r2, PF.ext h1 e3⟩
        | bk E2 S2 => rw [e2] at h1; exact h1
        | rt v S2 => rw [e2] at h1; exact h1
        | ex e E2 S2 => rw [e2] at h1; exact h1
        | no => rw [e2] at h1; exact h1
end
end FX

set_option Elab.async false
set_option linter.all false
set_option maxRecDepth 100000
set_option maxHeartbeats 2000000
set_option autoImplicit false
/-! FX7: what is walked; for; list comprehensions. -/
namespace FX
open PySem PySem.Spec PyProof.Rows L2
/-- what is walked, from where it stands on -/
inductive Wk where
  | items (xs : List IV)
  | cell (n i : Nat)
  | enumc (n i : Nat)
  | zipc (n m i : Nat)
def Wk.adv : Wk → Nat → Wk
  | .items xs, k => .items (xs.drop k)
  | .cell n i, k => .cell n (i + k)
  | .enumc n i, k => .enumc n (i + k)
  | .zipc n m i, k => .zipc n m (i + k)
def Wk.step (S : Sto) : Wk → Option (Option (IV × Wk))
  | .items [] => some none
  | .items (x :: r) => some (some (x, .items r))
  | .cell n i => (match S.get n with
    | some (.lst xs) => (match xs[i]? with
      | some x => some (some (x, .cell n (i + 1)))
      | none => some none)
    | _ => none)
  | .enumc n i => (match S.get n with
    | some (.lst xs) => (match xs[i]? with
      | some x => some (some (.tup [.int (i : Nat), x], .enumc n (i + 1)))
      | none => some none)
    | _ => none)
  | .zipc n m i => (match S.get n, S.get m with
    | some (.lst xs), some (.lst ys) => (match xs[i]?, ys[i]? with
      | some x, some y => some (some (.tup [x, y], .zipc n m (i + 1)))
      | _, _ => some none)
    | _, _ => none)
structure SimJ (C : Wd) (J : It) (k0 : Wk) (ρ0 : Map) (S0 : Sto) (H0 : Hp) : Prop where
  stop : ∀ i ρ S H, Ext ρ0 S0 H0 ρ S H → Rel C ρ S H → (k0.adv i).step S = some none → J.stop i H
  go : ∀ i ρ S H v k', Ext ρ0 S0 H0 ρ S H → Rel C ρ S H → (k0.adv i).step S = some (some (v, k')) → k' = k0.adv (i + 1) ∧ J.go i H ∧ ∀ x H', J.yld i H x H' → Ext ρ S H ρ S H' ∧ Rel C ρ S H' ∧ RV C ρ H' v x
abbrev MI := Env' → Sto → R Wk
def PK (C : Wd) (r : R Wk) (ρ : Map) (S : Sto) (H : Hp) (Q : It → Hp → Prop) (W : XK) : Prop := match r with
  | .ok k S' => ∀ ρ' H' J, Ext ρ S H ρ' S' H' → Rel C ρ' S' H' → SimJ C J k ρ' S' H' → Q J H'
  | .ex e S' => ∀ ρ' H' cls d, Ext ρ S H ρ' S' H' → Rel C ρ' S' H' → RX C ρ' H' e cls d → W cls d H'
  | .no => False
def tW (C : Wd) (m : MI) (W : WX) : TI := fun σ H Q => ∃ ρ E S, RE C ρ H E σ ∧ Rel C ρ S H ∧ PK C (m E S) ρ S H Q (fun c d H' => W c d σ H')
section
variable {X : Cx} {C : Wd} {W : WX}
theorem pi_mono {tg e : Expr} {t t' : TI} (h : PI X tg e t) (m : ∀ σ H Q, t' σ H Q → t σ H Q) : PI X tg e t' := ⟨fun pins s σ H Q I q => h.run pins s σ H Q I (m _ _ _ q)⟩
theorem PK.bind {α β : Type} {rel : Map → Hp → α → β → Prop} {r : R α} {k : α → Sto → R Wk} {ρ : Map} {S : Sto} {H : Hp} {Q : It → Hp → Prop} {W : XK}
    (h : PK C (r.bind k) ρ S H Q W) : PR C rel r ρ S H (fun x H1 => ∃ ρ1 v S1, Ext ρ S H ρ1 S1 H1 ∧ Rel C ρ1 S1 H1 ∧ rel ρ1 H1 v x ∧ PK C (k v S1) ρ1 S1 H1 Q W) W := by
  cases r with
  | ok v S1 =>
    intro ρ1 H1 x e1 r1 q1
    refine ⟨ρ1, v, S1, e1, r1, q1, ?_⟩
    have h : PK C (k v S1) ρ S H Q W := h
    revert h
    cases k v S1 with
    | ok w S2 => exact fun h ρ2 H2 y e2 r2 q2 => h ρ2 H2 y (e1.trans e2) r2 q2
    | ex e S2 => exact fun h ρ2 H2 c d e2 r2 q2 => h ρ2 H2 c d (e1.trans e2) r2 q2
    | no => exact fun h => h
  | ex e S1 => exact h
  | no => exact h
theorem PK.now {k : Wk} {S : Sto} {ρ : Map} {H : Hp} {Q : It → Hp → Prop} {W : XK} {J : It} (h : PK C (.ok k S) ρ S H Q W) (r : Rel C ρ S H) (q : SimJ C J k ρ S H) : Q J H := h ρ H J r.refl r q
mutual
theorem RV.heap {ρ : Map} {H H' : Hp} (key : ∀ {a : Addr} {xs : List V}, SqT C.K H a xs → SqT C.K H' a xs) (key2 : ∀ {a : Addr} {xs : List V}, SqF C.K H a xs → SqF C.K H' a xs) : ∀ {x : IV} {v : V}, RV C ρ H x v → RV C ρ H' x v
  | .non, _, h => rv_non.mpr (rv_non.mp h)
  | .bl _, _, h => rv_bl.mpr (rv_bl.mp h)
  | .int _, _, h => rv_int.mpr (rv_int.mp h)
  | .str _, _, h => rv_str.mpr (rv_str.mp h)
  | .glo _, _, h => rv_glo.mpr (rv_glo.mp h)
  | .ty _, _, h => rv_ty.mpr (rv_ty.mp h)
  | .ref n, _, h => rv_ref.mpr (rv_ref.mp h)
  | .tup xs, _, h => by
    obtain ⟨a, vs, e, t, q⟩ := rv_tup.mp h
    exact rv_tup.mpr ⟨a, vs, e, key t, RVs.heap key key2 q⟩
  | .frz xs, _, h => by
    obtain ⟨a, vs, e, t, q⟩ := rv_frz.mp h
    exact rv_frz.mpr ⟨a, vs, e, key2 t, RVs.heap key key2 q⟩
theorem RVs.heap {ρ : Map} {H H' : Hp} (key : ∀ {a : Addr} {xs : List V}, SqT C.K H a xs → SqT C.K H' a xs) (key2 : ∀ {a : Addr} {xs : List V}, SqF C.K H a xs → SqF C.K H' a xs) : ∀ {xs : List IV} {vs : List V}, RVs C ρ H xs vs → RVs C ρ H' xs vs
  | [], _, h => rvs_nil.mpr (rvs_nil.mp h)
  | x :: xs, _, h => by
    obtain ⟨v, q, e, h1, h2⟩ := rvs_cons.mp h
    exact rvs_cons.mpr ⟨v, q, e, RV.heap key key2 h1, RVs.heap key key2 h2⟩
end
/-! ### ranges -/
def rangeI (lo : Int) : Nat → List IV
  | 0 => []
  | n + 1 => .int lo :: rangeI (lo + 1) n
theorem rangeI_drop : ∀ (n i : Nat) (lo : Int), (rangeI lo n).drop i = rangeI (lo + i) (n - i)
  | n, 0, lo => by simp
  | 0, i + 1, lo => by simp [rangeI]
  | n + 1, i + 1, lo => by
    rw [rangeI, List.drop_succ_cons, rangeI_drop n i (lo + 1)]
    congr 1
    · omega
    · omega
theorem sim_range (lo : Int) (n : Nat) {ρ : Map} {S : Sto} {H : Hp} : SimJ C (Itr lo n) (.items (rangeI lo n)) ρ S H where
  stop := fun i ρ S H e r h => by
    show n ≤ i
    unfold Wk.adv at h
    dsimp only at h
    rw [rangeI_drop] at h
    by_cases z : n ≤ i
    · exact z
    · obtain ⟨m, hm⟩ : ∃ m, n - i = m + 1 := ⟨n - i - 1, by omega⟩
      rw [hm, rangeI] at h
      unfold Wk.step at h
      cases h
  go := fun i ρ S H v k' e r h => by
    unfold Wk.adv at h
    dsimp only at h
    rw [rangeI_drop] at h
    by_cases z : n ≤ i
    · rw [Nat.sub_eq_zero_of_le z, rangeI] at h
      unfold Wk.step at h
      cases h
    · obtain ⟨m, hm⟩ : ∃ m, n - i = m + 1 := ⟨n - i - 1, by omega⟩
      rw [hm, rangeI] at h
      unfold Wk.step at h
      cases h
      refine ⟨?_, Nat.lt_of_not_le z, ?_⟩
      · unfold Wk.adv
        dsimp only
        rw [rangeI_drop]
        congr 2
        · omega
        · omega
      · rintro x H' ⟨rfl, rfl⟩
        exact ⟨r.refl, r, rv_int.mpr rfl⟩
/-- lo, lo + c, .. -/
def rangeC (lo c : Int) : Nat → List IV
  | 0 => []
  | n + 1 => .int lo :: rangeC (lo + c) c n
theorem rangeC_drop : ∀ (n i : Nat) (lo c : Int), (rangeC lo c n).drop i = rangeC (lo + i * c) c (n - i)
  | n, 0, lo, c => by simp
  | 0, i + 1, lo, c => by simp [rangeC]
  | n + 1, i + 1, lo, c => by
    rw [rangeC, List.drop_succ_cons, rangeC_drop n i (lo + c) c]
    have e : lo + c + (i : Int) * c = lo + ((i + 1 : Nat) : Int) * c := by
      rw [Int.natCast_add, Int.add_mul]
      omega
    rw [e]
    congr 1
    omega
theorem sim_rangeC (lo c : Int) (n : Nat) {ρ : Map} {S : Sto} {H : Hp} : SimJ C (Itc lo c n) (.items (rangeC lo c n)) ρ S H where
  stop := fun i ρ S H e r h => by
    show n ≤ i
    unfold Wk.adv at h
    dsimp only at h
    rw [rangeC_drop] at h
    by_cases z : n ≤ i
    · exact z
    · obtain ⟨m, hm⟩ : ∃ m, n - i = m + 1 := ⟨n - i - 1, by omega⟩
      rw [hm, rangeC] at h
      unfold Wk.step at h
      cases h
  go := fun i ρ S H v k' e r h => by
    unfold Wk.adv at h
    dsimp only at h
    rw [rangeC_drop] at h
    by_cases z : n ≤ i
    · rw [Nat.sub_eq_zero_of_le z, rangeC] at h
      unfold Wk.step at h
      cases h
    · obtain ⟨m, hm⟩ : ∃ m, n - i = m + 1 := ⟨n - i - 1, by omega⟩
      rw [hm, rangeC] at h
      unfold Wk.step at h
      cases h
      refine ⟨?_, Nat.lt_of_not_le z, ?_⟩
      · unfold Wk.adv
        dsimp only
        rw [rangeC_drop]
        have e : lo + (i : Int) * c + c = lo + ((i + 1 : Nat) : Int) * c := by
          rw [Int.natCast_add, Int.add_mul]
          omega
        rw [← e]
        congr 2
        omega
      · rintro x H' ⟨rfl, rfl⟩
        exact ⟨r.refl, r, rv_int.mpr rfl⟩
def in62 (i : Int) : Bool := decide (-(2 ^ 62) ≤ i) && decide (i < 2 ^ 62)
theorem in62_ok {i : Int} (h : in62 i = true) : -(2 ^ 62) ≤ i ∧ i < 2 ^ 62 := by
  unfold in62 at h
  rw [Bool.and_eq_true] at h
  exact ⟨of_decide_eq_true h.1, of_decide_eq_true h.2⟩
def fRange : List IV → Sto → R Wk := fun as S => match as with
  | [.int j] => bif in62 j then .ok (.items (rangeI 0 j.toNat)) S else .no
  | [.int i, .int j] => bif (in62 i && in62 j) then .ok (.items (rangeI i (j - i).toNat)) S else .no
  | [.int i, .int j, .int c] => bif (in62 i && in62 j && decide (c = -1)) then .ok (.items (rangeC i (-1) (i - j).toNat)) S else .no
  | _ => .no
def mWk (f : List IV → Sto → R Wk) (ms : MA) : MI := fun E S => (ms E S).bind f
theorem qi_range1 {tg a : Expr} {ms : MA} {p pos : Pos} (hg : Gl X "range") (hm : X.mg "range" = none) (ha : PA X [a] (tA C ms W)) (hs : starEach [a] X.env = [(false, eval a X.env)] := by rfl) (hn : ∀ E S as S', ms E S = .ok as S' → as.length = 1) :
    PI X tg (.Call (.Name "range" p) [a] [] pos) (tW C (mWk fRange ms) W) :=
  pi_mono (pi_range1 hg hm ha hs) fun σ H Q h => by
    obtain ⟨ρ, E, S, q, r, h⟩ := h
    unfold mWk at h
    have hn1 := hn E S
    revert hn1
    cases e0 : ms E S with
    | no => intro _; rw [e0] at h; exact h.elim
    | ex x S' => intro _; refine ⟨ρ, E, S, q, r, ?_⟩; rw [e0] at h ⊢; exact h
    | ok as S' =>
      intro hn1
      have hl := hn1 as S' rfl
      refine ⟨ρ, E, S, q, r, ?_⟩
      rw [e0] at h ⊢
      intro ρ1 H1 x1 e1 r1 y1
      have h1 : PK C (fRange as S') ρ S H Q _ := h
      unfold fRange at h1
      split at h1
      · rename_i j
        obtain ⟨v, rfl, g⟩ := rvs_one y1
        have ev := rv_int.mp g
        subst ev
        cases z : in62 j with
        | false => rw [z] at h1; exact h1.elim
        | true =>
          rw [z] at h1
          obtain ⟨z1, z2⟩ := in62_ok z
          exact ⟨j, rfl, z1, z2, h1 ρ1 H1 _ e1 r1 (sim_range 0 _)⟩
      · simp at hl
      · simp at hl
      · exact h1.elim
theorem qi_range2 {tg a b : Expr} {ms : MA} {p pos : Pos} (hg : Gl X "range") (hm : X.mg "range" = none) (ha : PA X [a, b] (tA C ms W)) (hs : starEach [a, b] X.env = [(false, eval a X.env), (false, eval b X.env)] := by rfl) (hs2 : starEach [b] X.env = [(false, eval b X.env)] := by rfl) (hn : ∀ E S as S', ms E S = .ok as S' → as.length = 2) :
    PI X tg (.Call (.Name "range" p) [a, b] [] pos) (tW C (mWk fRange ms) W) :=
  pi_mono (pi_range2 hg hm ha hs hs2) fun σ H Q h => by
    obtain ⟨ρ, E, S, q, r, h⟩ := h
    unfold mWk at h
    have hn1 := hn E S
    revert hn1
    cases e0 : ms E S with
    | no => intro _; rw [e0] at h; exact h.elim
    | ex x S' => intro _; refine ⟨ρ, E, S, q, r, ?_⟩; rw [e0] at h ⊢; exact h
    | ok as S' =>
      intro hn1
      have hl := hn1 as S' rfl
      refine ⟨ρ, E, S, q, r, ?_⟩
      rw [e0] at h ⊢
      intro ρ1 H1 x1 e1 r1 y1
      have h1 : PK C (fRange as S') ρ S H Q _ := h
      unfold fRange at h1
      split at h1
      · simp at hl
      · rename_i i j
        obtain ⟨v, w, rfl, g1, g2⟩ := rvs_two y1
        have ev := rv_int.mp g1
        have ew := rv_int.mp g2
        subst ev ew
        cases z : (in62 i && in62 j) with
        | false => rw [z] at h1; exact h1.elim
        | true =>
          rw [z] at h1
          rw [Bool.and_eq_true] at z
          obtain ⟨z1, z2⟩ := in62_ok z.1
          obtain ⟨z3, z4⟩ := in62_ok z.2
          exact ⟨i, j, rfl, ⟨z1, z2, z3, z4⟩, h1 ρ1 H1 _ e1 r1 (sim_range i _)⟩
      · simp at hl
      · exact h1.elim
theorem qi_range3 {tg a b c : Expr} {ms : MA} {p pos : Pos} (hg : Gl X "range") (hm : X.mg "range" = none) (ha : PA X [a, b, c] (tA C ms W)) (hs : starEach [a, b, c] X.env = (false, eval a X.env) :: starEach [b, c] X.env := by rfl) (hpl : (backTo pos (starEach [b, c] X.env)).any (·.1) = false := by rfl) (hn : ∀ E S as S', ms E S = .ok as S' → as.length = 3) :
    PI X tg (.Call (.Name "range" p) [a, b, c] [] pos) (tW C (mWk fRange ms) W) :=
  pi_mono (pi_range3 hg hm ha hs hpl) fun σ H Q h => by
    obtain ⟨ρ, E, S, q, r, h⟩ := h
    unfold mWk at h
    have hn1 := hn E S
    revert hn1
    cases e0 : ms E S with
    | no => intro _; rw [e0] at h; exact h.elim
    | ex x S' => intro _; refine ⟨ρ, E, S, q, r, ?_⟩; rw [e0] at h ⊢; exact h
    | ok as S' =>
      intro hn1
      have hl := hn1 as S' rfl
      refine ⟨ρ, E, S, q, r, ?_⟩
      rw [e0] at h ⊢
      intro ρ1 H1 x1 e1 r1 y1
      have h1 : PK C (fRange as S') ρ S H Q _ := h
      unfold fRange at h1
      split at h1
      · simp at hl
      · simp at hl
      · rename_i i j c
        obtain ⟨v, w, u, rfl, g1, g2, g3⟩ := rvs_three y1
        have ev := rv_int.mp g1
        have ew := rv_int.mp g2
        have eu := rv_int.mp g3
        subst ev ew eu
        cases z : (in62 i && in62 j && decide (c = -1)) with
        | false => rw [z] at h1; exact h1.elim
        | true =>
          rw [z] at h1
          rw [Bool.and_eq_true, Bool.and_eq_true] at z
          obtain ⟨z1, z2⟩ := in62_ok z.1.1
          obtain ⟨z3, z4⟩ := in62_ok z.1.2
          have ec := of_decide_eq_true z.2
          subst ec
          exact ⟨i, j, -1, _, rfl, RgC.neg z1 z2 z3 z4, h1 ρ1 H1 _ e1 r1 (sim_rangeC i (-1) _)⟩
      · exact h1.elim
/-! ### lists and tuples -/
theorem sim_tup {ρ : Map} {S : Sto} {H : Hp} {a : Addr} {xs : List IV} {vs : List V} (r0 : Rel C ρ S H) (t : SqT C.K H a vs) (h : RVs C ρ H xs vs) : SimJ C (Itt C.K a) (.items xs) ρ S H where
  stop := fun i ρ' S' H' e r g => by
    refine ⟨vs, e.tup r0 t, ?_⟩
    rw [h.length]
    unfold Wk.adv at g
    dsimp only at g
    cases z : xs.drop i with
    | nil => exact List.drop_eq_nil_iff.mp z
    | cons x q => rw [z] at g; unfold Wk.step at g; cases g
  go := fun i ρ' S' H' v k' e r g => by
    unfold Wk.adv at g
    dsimp only at g
    cases z : xs.drop i with
    | nil => rw [z] at g; unfold Wk.step at g; cases g
    | cons x q =>
      rw [z] at g
      unfold Wk.step at g
      cases g
      have hx : xs[i]? = some v := by
        have := congrArg List.head? z
        rw [List.head?_drop] at this
        simpa using this
      obtain ⟨u, hu, ru⟩ := (RVs.ext e r0 _ _ h).get hx
      refine ⟨?_, ⟨vs, u, e.tup r0 t, hu⟩, ?_⟩
      · unfold Wk.adv
        dsimp only
        rw [← List.drop_drop, z]
        rfl
      · rintro x1 H1 ⟨rfl, hall⟩
        have := hall vs (e.tup r0 t)
        rw [hu] at this
        cases this
        exact ⟨r.refl, r, ru⟩
theorem sim_cell {ρ : Map} {S : Sto} {H : Hp} {n : Nat} {a : Addr} (ha : ρ n = some a) : SimJ C (Itl C.K a) (.cell n 0) ρ S H where
  stop := fun i ρ' S' H' e r g => by
    unfold Wk.adv at g
    unfold Wk.step at g
    dsimp only at g
    rw [Nat.zero_add] at g
    split at g
    · rename_i xs gx
      obtain ⟨b, ho, e1, e2, vs, rfl, e3⟩ := r.obj n _ gx
      rw [e.map n a ha] at e1
      cases e1
      split at g
      · cases g
      · rename_i z
        exact ⟨vs, SqL.of e2, by rw [e3.length]; exact List.getElem?_eq_none_iff.mp z⟩
    · cases g
  go := fun i ρ' S' H' v k' e r g => by
    unfold Wk.adv at g
    unfold Wk.step at g
    dsimp only at g
    rw [Nat.zero_add] at g
    split at g
    · rename_i xs gx
      obtain ⟨b, ho, e1, e2, vs, rfl, e3⟩ := r.obj n _ gx
      rw [e.map n a ha] at e1
      cases e1
      split at g
      · rename_i x z
        cases g
        obtain ⟨u, hu, ru⟩ := e3.get z
        refine ⟨by unfold Wk.adv; dsimp only; rw [Nat.zero_add], ⟨vs, u, SqL.of e2, hu⟩, ?_⟩
        rintro x1 H1 ⟨rfl, hall⟩
        have := hall vs (SqL.of e2)
        rw [hu] at this
        cases this
        exact ⟨r.refl, r, ru⟩
      · cases g
    · cases g
/-- a list or a tuple -/
def iSeq (K : PySem.W.Frag) (tl : TE) : TI := fun σ H R => tl σ H fun x H1 => ∃ a, x = .ref a ∧ (((∃ xs, SqL K H1 a xs) ∧ R (Itl K a) H1) ∨ ((∃ xs, SqT K H1 a xs) ∧ R (Itt K a) H1))
theorem pi_seq {tg l : Expr} {tl : TE} (hl : PE X l tl) : PI X tg l (iSeq X.K tl) := by
  refine ⟨fun pins s σ H R I h => ?_⟩
  refine thn (hl.run pins s σ H _ I h) fun v s1 ⟨x, H1, I1, r1, q1⟩ => ?_
  obtain ⟨a, e, ⟨⟨xs, hq⟩, q⟩ | ⟨⟨xs, hq⟩, q⟩⟩ := q1
  · subst e
    cases r1
    obtain ⟨its, rv, p, hz⟩ := I1.list hq
    refine wpAny_pyIter_list p.isList ?_
    refine ⟨s1.heap.objs.size, [s1.heap.objs.size], _, _, H1, rfl, I1.kept (t' := s1.toks) fun b o e => Heap.get?_push_of_some _ e, turn_list a _, ⟨_, Heap.get?_push_size _ rfl, rfl, rfl⟩, fun b hb => ?_, q⟩
    have e : b = s1.heap.objs.size := by simpa using hb
    subst e
    exact I1.fpOk (Nat.le_refl _) (I1.hok.fresh (Nat.le_refl _))
  · subst e
    cases r1
    obtain ⟨its, rv, p, hz⟩ := I1.tuple hq
    refine wpAny_pyIter_tuple (show s1.heap.IsTuple a its.toArray from p) ?_
    refine ⟨s1.heap.objs.size, [s1.heap.objs.size], _, _, H1, rfl, I1.kept (t' := s1.toks) fun b o e => Heap.get?_push_of_some _ e, turn_tuple a _, ⟨_, Heap.get?_push_size _ rfl, rfl, rfl⟩, fun b hb => ?_, q⟩
    have e : b = s1.heap.objs.size := by simpa using hb
    subst e
    exact I1.fpOk (Nat.le_refl _) (I1.hok.fresh (Nat.le_refl _))
def mSeqW (m : ME) : MI := fun E S => (m E S).bind fun v S1 => match v with
  | .tup xs => .ok (.items xs) S1
  | .ref n => (match S1.get n with
    | some (.lst _) => .ok (.cell n 0) S1
    | _ => .no)
  | _ => .no
theorem qi_seq {tg l : Expr} {m : ME} (hK : X.K = C.K) (hl : PE X l (tI C m W)) : PI X tg l (tW C (mSeqW m) W) :=
  pi_mono (pi_seq hl) fun σ H Q h => by
    obtain ⟨ρ, E, S, q, r, h⟩ := h
    refine ⟨ρ, E, S, q, r, PR.mono (PK.bind (rel := RV C) h) (fun x H1 ⟨ρ1, v, S1, e1, r1, x1, h1⟩ => ?_) fun _ _ _ z => z⟩
    rw [hK]
    split at h1
    · obtain ⟨a, vs, rfl, t, w⟩ := rv_tup.mp x1
      exact ⟨a, rfl, .inr ⟨⟨vs, t⟩, PK.now h1 r1 (sim_tup r1 t w)⟩⟩
    · split at h1
      · rename_i g
        obtain ⟨a, vs, e2, rfl, t, w⟩ := cell_at r1 x1 g
        exact ⟨a, rfl, .inl ⟨⟨vs, SqL.of t⟩, PK.now h1 r1 (sim_cell e2)⟩⟩
      · exact h1.elim
    · exact h1.elim
/-! ### for -/
def mForGo (tg : Tg) (b : MS) : Nat → Wk → MS
  | 0, _ => fun _ _ => .no
  | n + 1, k => fun E S => match k.step S with
    | none => .no
    | some none => .nx E S
    | some (some (v, k')) => (match bindT tg v E with
      | none => .no
      | some E1 => match b E1 S with
        | .nx E2 S2 => mForGo tg b n k' E2 S2
        | .ct E2 S2 => mForGo tg b n k' E2 S2
        | .bk E2 S2 => .nx E2 S2
        | .rt v S2 => .rt v S2
        | .ex e E2 S2 => .ex e E2 S2
        | .no => .no)
def mFor (n : Nat) (mi : MI) (tg : Tg) (b : MS) : MS := fun E S => (mi E S).to E fun k S1 => mForGo tg b n k E S1
theorem PK.to {r : R Wk} {E : Env'} {k : Wk → Sto → Fl} {ρ : Map} {S : Sto} {H : Hp} {D : Ends} {σ : L2.St} (q : RE C ρ H E σ) (r0 : Rel C ρ S H)
    (h : PF C (r.to E k) ρ S H D W) : PK C r ρ S H (fun J H1 => ∃ ρ1 v S1, Ext ρ S H ρ1 S1 H1 ∧ Rel C ρ1 S1 H1 ∧ SimJ C J v ρ1 S1 H1 ∧ PF C (k v S1) ρ1 S1 H1 D W) (fun c d H' => W c d σ H') := by
  cases r with
  | ok v S1 => exact fun ρ1 H1 x e1 r1 q1 => ⟨ρ1, v, S1, e1, r1, q1, PF.ext h e1⟩
  | ex e S1 => exact fun ρ1 H1 c d e1 r1 q1 => h ρ1 H1 σ c d e1 r1 (q.ext e1 r0) q1
  | no => exact h
theorem PK.mono {r : R Wk} {ρ : Map} {S : Sto} {H : Hp} {Q Q' : It → Hp → Prop} {W W' : XK} (h : PK C r ρ S H Q W) (hq : ∀ x H, Q x H → Q' x H) (hw : ∀ c d H, W c d H → W' c d H) : PK C r ρ S H Q' W' := by
  cases r with
  | ok v S' => exact fun ρ2 H2 y e2 r2 q2 => hq _ _ (h ρ2 H2 y e2 r2 q2)
  | ex e S2 => exact fun ρ2 H2 c d e2 r2 q2 => hw _ _ _ (h ρ2 H2 c d e2 r2 q2)
  | no => exact h
theorem qs_for {tg iter : Expr} {body : List Stmt} {mi : MI} {g : Tg} {b : MS} {pos : Pos} (n : Nat) (hp : PassesOwn (model X.prog X.w) X.A X.env X.xe) (hc : X.calm = true) (hi : PI X tg iter (tW C mi W)) (hg : PG X tg (gI C g)) (hb : PSs X body (tS C b W))
    (hs : ∀ x, foldedSetIterable iter X.env x = pure x := by intro _; rfl) : PS X (.For tg iter body [] pos) (tS C (mFor n mi g b) W) :=
  ps_mono (ps_for hp hc hi hg hb hs) fun D σ H h => by
    obtain ⟨ρ, E, S, q, r, h⟩ := h
    refine ⟨ρ, E, S, q, r, PK.mono (PK.to q r h) (fun J H1 ⟨ρ1, k0, S1, e1, r1, sim, h1⟩ => ?_) fun _ _ _ z => z⟩
    refine ⟨fun i m σ H => ∃ ρ E S, RE C ρ H E σ ∧ Rel C ρ S H ∧ Ext ρ1 S1 H1 ρ S H ∧ PF C (mForGo g b m (k0.adv i) E S) ρ S H D W, ⟨n, ρ1, E, S1, q.ext e1 r, r1, r1.refl, ?_⟩, ?_⟩
    · have : k0.adv 0 = k0 := by cases k0 <;> simp [Wk.adv]
      rw [this]
      exact h1
    · intro i m σ H h
      obtain ⟨ρ, E, S, q, r, e0, h⟩ := h
      cases m with
      | zero => exact h.elim
      | succ m =>
        unfold mForGo at h
        cases es : (k0.adv i).step S with
        | none => rw [es] at h; exact h.elim
        | some o =>
          cases o with
          | none =>
            rw [es] at h
            exact .inl ⟨sim.stop i ρ S H e0 r es, PF.nxt h q r⟩
          | some p =>
            obtain ⟨v, k'⟩ := p
            rw [es] at h
            dsimp only at h
            obtain ⟨ek, hgo, hyld⟩ := sim.go i ρ S H v k' e0 r es
            subst ek
            cases eb : bindT g v E with
            | none => rw [eb] at h; exact h.elim
            | some E1 =>
              rw [eb] at h
              dsimp only at h
              refine .inr ⟨hgo, fun σ' H' => ∃ ρ E S, RE C ρ H' E σ' ∧ Rel C ρ S H' ∧ Ext ρ1 S1 H1 ρ S H' ∧ PF C (mForGo g b m (k0.adv (i + 1)) E S) ρ S H' D W, fun σ' H' z => ⟨m, Nat.lt_succ_self m, z⟩, fun x H' hy => ?_⟩
              obtain ⟨e2, r2, x2⟩ := hyld x H' hy
              refine ⟨ρ, E, S, v, E1, q.ext e2 r, r2, x2, eb, fun σ2 q2 _ => ⟨ρ, E1, S, q2, r2, ?_⟩⟩
              have h := PF.ext h e2
              have e3 := e0.trans e2
              cases e4 : b E1 S with
              | nx E2 S2 => rw [e4] at h; exact fun ρ2 H2 σ3 e5 r5 q5 => ⟨ρ2, E2, S2, q5, r5, e3.trans e5, PF.ext h e5⟩
              | ct E2 S2 => rw [e4] at h; exact fun ρ2 H2 σ3 e5 r5 q5 => ⟨ρ2, E2, S2, q5, r5, e3.trans e5, PF.ext h e5⟩
              | bk E2 S2 => rw [e4] at h; exact h
              | rt v S2 => rw [e4] at h; exact h
              | ex e E2 S2 => rw [e4] at h; exact h
              | no => rw [e4] at h; exact h
/-! ### list comprehensions -/
def wipeE (E : Env') : List Nat → Env'
  | [] => E
  | v :: vs => (wipeE E vs).set v none
theorem RE.none {ρ : Map} {H : Hp} {E : Env'} {σ : L2.St} (q : RE C ρ H E σ) (i : Nat) : RE C ρ H (E.set i none) (σ.set i none) := by
  refine ⟨by simp [q.len], fun j y e => ?_⟩
  by_cases hj : j = i
  · subst hj
    have hl : j < E.length := by
      have := (List.getElem?_eq_some_iff.mp e).1
      simpa using this
    rw [List.getElem?_set_self hl] at e
    cases e
  · rw [List.getElem?_set_ne (Ne.symm hj)] at e
    obtain ⟨u, h1, h2⟩ := q.at_ j y e
    exact ⟨u, by rw [List.getElem?_set_ne (Ne.symm hj)]; exact h1, h2⟩
theorem RE.wipe {ρ : Map} {H : Hp} {E : Env'} {σ : L2.St} (q : RE C ρ H E σ) : ∀ vs : List Nat, RE C ρ H (wipeE E vs) (L2.wipe σ vs)
  | [] => q
  | v :: vs => (RE.wipe q vs).none v
theorem wipe_get (σ : L2.St) : ∀ (vs : List Nat) (j : Nat), (L2.wipe σ vs)[j]? = if j ∈ vs then (if j < σ.length then some none else none) else σ[j]?
  | [], j => by simp [L2.wipe]
  | v :: vs, j => by
    show ((L2.wipe σ vs).set v none)[j]? = _
    by_cases hj : j = v
    · subst hj
      by_cases hl : j < σ.length
      · rw [List.getElem?_set_self (by rw [wipe_length]; exact hl)]
        simp [hl]
      · rw [List.getElem?_eq_none_iff.mpr (by rw [List.length_set, wipe_length]; omega)]
        simp [hl]
    · rw [List.getElem?_set_ne (Ne.symm hj), wipe_get σ vs j]
      simp [hj]
theorem wipe_only {σ σ' : L2.St} {vs l : List Nat} (h : OnlyAt (L2.wipe σ vs) σ' l) (hl : ∀ i ∈ l, i ∈ vs) : L2.wipe σ' vs = L2.wipe σ vs := by
  apply List.ext_getElem?
  intro j
  have h1 := h.1
  rw [wipe_length] at h1
  rw [wipe_get, wipe_get, h1]
  by_cases hj : j ∈ vs
  · rw [if_pos hj, if_pos hj]
  · rw [if_neg hj, if_neg hj, h.2 j (fun z => hj (hl j z)), wipe_get, if_neg hj]
def mLcGo (tg : Tg) (t : MT) (e : ME) : Nat → Wk → List IV → Env' → Sto → R (List IV)
  | 0, _, _, _, _ => .no
  | n + 1, k, acc, E, S => match k.step S with
    | none => .no
    | some none => .ok acc.reverse S
    | some (some (v, k')) => (match bindT tg v E with
      | none => .no
      | some E1 => match t E1 S with
        | .ok true S1 => (match e E1 S1 with
          | .ok y S2 => mLcGo tg t e n k' (y :: acc) E S2
          | _ => .no)
        | .ok false S1 => mLcGo tg t e n k' acc E S1
        | _ => .no)
def mLc (n : Nat) (mi : MI) (tg : Tg) (t : MT) (e : ME) (vs : List Nat) : ME := fun E S => (mi E S).bind fun k S1 => (mLcGo tg t e n k [] (wipeE E vs) S1).bind fun xs S2 => .ok (.ref S2.top) (S2.new (.lst xs))
def mYes : MT := fun _ S => .ok true S
/-- a tracked list that no cell stands for becomes one -/
theorem adopt {ρ1 ρ2 : Map} {S1 S2 : Sto} {H1 H2 : Hp} {D : Addr} {xs : List IV} {vs : List V} (hD : H1 D = none) (e : Ext ρ1 S1 H1 ρ2 S2 H2) (r : Rel C ρ2 S2 H2) (h : H2 D = some (.lst vs)) (hv : RVs C ρ2 H2 xs vs) (hn : ∀ i, ρ2 i ≠ some D) :
    Ext ρ1 S1 H1 (ρ2.new S2.top D) (S2.new (.lst xs)) H2 ∧ Rel C (ρ2.new S2.top D) (S2.new (.lst xs)) H2 ∧ RV C (ρ2.new S2.top D) H2 (.ref S2.top) (.ref D) := by
  have lt : ∀ i a, ρ2 i = some a → i < S2.top := fun i a h => (r.live i a h).1
  have at_ : ∀ i, i ≠ S2.top → ρ2.new S2.top D i = ρ2 i := fun i hi => if_neg hi
  have new_ : ρ2.new S2.top D S2.top = some D := if_pos rfl
  have e2 : Ext ρ2 S2 H2 (ρ2.new S2.top D) S2 H2 → True := fun _ => trivial
  have mono : ∀ (x : List IV) (v : List V), RVs C ρ2 H2 x v → RVs C (ρ2.new S2.top D) H2 x v := by
    have key : ∀ i a, ρ2 i = some a → ρ2.new S2.top D i = some a := fun i a h => by rw [at_ i (Nat.ne_of_lt (lt i a h))]; exact h
    intro x v h
    exact RVs.map key h
  refine ⟨⟨fun i a h => ?_, fun i a h hl => ?_, fun i a h hl => ?_, ?_, fun b o hb ht hb2 => e.frame b o hb ht hb2, e.there, fun i hl hg => ?_⟩, ⟨fun i o g => ?_, fun i j a hi hj => ?_, fun i a ha => ?_, r.tabs⟩, rv_ref.mpr ⟨D, new_, rfl⟩⟩
  · have h2 := e.map i a h
    rw [at_ i (Nat.ne_of_lt (lt i a h2))]
    exact h2
  · have hne : i ≠ S2.top := Nat.ne_of_lt (Nat.lt_of_lt_of_le hl e.top)
    rw [at_ i hne] at h
    exact e.old i a h hl
  · by_cases hi : i = S2.top
    · rw [hi, new_] at h
      cases h
      exact hD
    · rw [at_ i hi] at h
      exact e.fresh i a h hl
  · obtain ⟨k, h1, h2⟩ := e.grow
    exact ⟨k + 1, by show S2.top + 1 = _; omega, by show (IO.lst xs :: S2.cells).length = _; rw [List.length_cons]; omega⟩
  · have hne : i ≠ S2.top := Nat.ne_of_lt (Nat.lt_of_lt_of_le hl e.top)
    rw [get_new_ne hne] at hg
    exact e.dom i hl hg
  · by_cases hi : i = S2.top
    · rw [hi, get_new] at g
      cases g
      exact ⟨D, _, by rw [hi]; exact new_, h, vs, rfl, mono _ _ hv⟩
    · rw [get_new_ne hi] at g
      obtain ⟨a, ho, f1, f2, f3⟩ := r.obj i o g
      refine ⟨a, ho, by rw [at_ i hi]; exact f1, f2, ?_⟩
      cases o with
      | lst ys =>
        obtain ⟨us, rfl, f4⟩ := f3
        exact ⟨us, rfl, mono _ _ f4⟩
      | dct kvs =>
        obtain ⟨us, rfl, f5, f4⟩ := f3
        exact ⟨us, rfl, f5, mono _ _ f4⟩
  · by_cases h1 : i = S2.top <;> by_cases h2 : j = S2.top
    · rw [h1, h2]
    · rw [h1, new_] at hi
      rw [at_ j h2] at hj
      cases hi
      exact absurd hj (hn j)
    · rw [h2, new_] at hj
      rw [at_ i h1] at hi
      cases hj
      exact absurd hi (hn i)
    · rw [at_ i h1] at hi
      rw [at_ j h2] at hj
      exact r.inj i j a hi hj
  · by_cases hi : i = S2.top
    · rw [hi, new_] at ha
      cases ha
      exact ⟨by rw [hi]; exact Nat.lt_succ_self _, _, h, rfl⟩
    · rw [at_ i hi] at ha
      obtain ⟨h1, ho, h2, h3⟩ := r.live i a ha
      exact ⟨Nat.lt_succ_of_lt h1, ho, h2, h3⟩
end
end FX

set_option Elab.async false
set_option linter.all false
set_option maxRecDepth 100000
set_option maxHeartbeats 2000000
set_option autoImplicit false
/-! FX8: list comprehensions; zip; a def's body. -/
namespace FX
open PySem PySem.Spec PyProof.Rows L2
/-- no exception leaves -/
abbrev W0 : WX := fun _ _ _ _ => False
section
variable {X : Cx} {C : Wd} {W : WX}
/-- the reading of a comprehension's turns -/
theorem lc_turns {n : Nat} (hn : n ≤ 16777216) {g : Tg} {t : MT} {e : ME} {vs : List Nat} (hv : ∀ i ∈ g.slots, i ∈ vs) {σ : L2.St} {E : Env'} {J : It} {k0 : Wk} {ρ1 : Map} {S1 : Sto} {H1 : Hp} {Q : VK} {W : XK} (q : RE C ρ1 H1 E σ) (r1 : Rel C ρ1 S1 H1) (sim : SimJ C J k0 ρ1 S1 H1)
    (h : PR C (RV C) ((mLcGo g t e n k0 [] (wipeE E vs) S1).bind fun xs S2 => .ok (.ref S2.top) (S2.new (.lst xs))) ρ1 S1 H1 Q W) (D : Addr) (hD : H1 D = none) :
    ∃ Wv : Nat → Nat → Hp → Prop, (∃ m, Wv 0 m (upd H1 D (.lst []))) ∧ ∀ i m H, Wv i m H →
      (J.stop i H ∧ Q (.ref D) H) ∨ (J.go i H ∧ ∃ Nx : Hp → Prop, (∀ H', Nx H' → ∃ m', m' < m ∧ Wv (i + 1) m' H') ∧ ∀ x H', J.yld i H x H' → gI C g x (L2.wipe σ vs) H' fun σ2 H2 => L2.wipe σ2 vs = L2.wipe σ vs ∧ tT C t W0 σ2 H2 fun b H3 =>
        if b = true then tI C e W0 σ2 H3 fun y H4 => ∃ acc, H4 D = some (.lst acc) ∧ acc.length < sizeLine ∧ Nx (upd H4 D (.lst (acc ++ [y]))) else Nx H3) := by
  -- what the whole comes to
  let Fin : R (List IV) → Prop := fun r => match r with
    | .ok xs S2 => ∀ ρ2 H2 us, Ext ρ1 S1 H1 ρ2 S2 H2 → Rel C ρ2 S2 H2 → H2 D = some (.lst us) → RVs C ρ2 H2 xs us → (∀ i, ρ2 i ≠ some D) → Q (.ref D) H2
    | _ => False
  have hfin : ∀ r : R (List IV), (∀ ex S2, r = .ex ex S2 → False) → PR C (RV C) (r.bind fun xs S2 => .ok (.ref S2.top) (S2.new (.lst xs))) ρ1 S1 H1 Q W → Fin r := by
    intro r hne hr
    cases r with
    | no => exact hr
    | ex x S2 => exact (hne x S2 rfl).elim
    | ok xs S2 =>
      intro ρ2 H2 us e2 r2 hd hu hno
      obtain ⟨g1, g2, g3⟩ := adopt hD e2 r2 hd hu hno
      exact hr _ _ _ g1 g2 g3
  have noex : ∀ (n : Nat) (k : Wk) (acc : List IV) (E : Env') (S : Sto) ex S2, mLcGo g t e n k acc E S = .ex ex S2 → False := by
    intro n
    induction n with
    | zero => intro k acc E S ex S2 h; unfold mLcGo at h; cases h
    | succ n ih =>
      intro k acc E S ex S2 h
      unfold mLcGo at h
      split at h
      · cases h
      · cases h
      · split at h
        · cases h
        · split at h
          · split at h
            · exact ih _ _ _ _ _ _ h
            · cases h
          · exact ih _ _ _ _ _ _ h
          · cases h
  have h0 : Fin (mLcGo g t e n k0 [] (wipeE E vs) S1) := hfin _ (noex _ _ _ _ _) h
  have noD : ∀ i, ρ1 i ≠ some D := fun i z => by
    obtain ⟨_, ho, h2, _⟩ := r1.live i D z
    rw [hD] at h2
    cases h2
  have side : ∀ {ρ S H} (o : HO), Ext ρ1 S1 H1 ρ S H → Ext ρ1 S1 H1 ρ S (upd H D o) := fun {ρ S H} o e0 =>
    ⟨e0.map, e0.old, e0.fresh, e0.grow, fun b ob hb ht hb2 => by rw [upd_ne (ne_of_none hb hD)]; exact e0.frame b ob hb ht hb2, fun b hb => by
      by_cases z : b = D
      · rw [z]; exact hD
      · rw [upd_ne z] at hb; exact e0.there b hb, e0.dom⟩
  -- a state beside D's list
  have beside : ∀ {ρ S H} (us : List V), Rel C ρ S H → (H D = none ∨ ∃ us0, H D = some (.lst us0)) → (∀ i, ρ i ≠ some D) → Rel C ρ S (upd H D (.lst us)) ∧ ∀ xs vs, RVs C ρ H xs vs → RVs C ρ (upd H D (.lst us)) xs vs := by
    intro ρ S H us r hd hno
    have tupK : ∀ {a : Addr} {xs : List V}, SqT C.K H a xs → SqT C.K (upd H D (.lst us)) a xs := by
      intro a xs t
      have nt : ∀ o, H a = some o → isCell o = false → a ≠ D := fun o ho hc z => by
        rw [z] at ho
        rcases hd with z1 | ⟨u0, z1⟩
        · rw [z1] at ho; cases ho
        · rw [z1] at ho; cases ho; cases hc
      rcases t with (t | ⟨o, t⟩) | t
      · exact .inl (.inl (by rw [upd_ne (nt _ t rfl)]; exact t))
      · exact .inl (.inr ⟨o, by rw [upd_ne (nt _ t rfl)]; exact t⟩)
      · exact .inr t
    have frzK : ∀ {a : Addr} {xs : List V}, SqF C.K H a xs → SqF C.K (upd H D (.lst us)) a xs := by
      intro a xs t
      rcases t with ⟨o, t⟩ | t
      · refine .inl ⟨o, ?_⟩
        rw [upd_ne]
        · exact t
        · intro z
          rw [z] at t
          rcases hd with z1 | ⟨u0, z1⟩ <;> rw [z1] at t <;> cases t
      · exact .inr t
    have mono : ∀ xs vs, RVs C ρ H xs vs → RVs C ρ (upd H D (.lst us)) xs vs := fun xs vs => RVs.heap tupK frzK
    refine ⟨⟨fun i o g => ?_, r.inj, fun i a ha => ?_, ?_⟩, mono⟩
    · obtain ⟨a, ho, f1, f2, f3⟩ := r.obj i o g
      refine ⟨a, ho, f1, by rw [upd_ne (fun z => hno i (by rw [← z]; exact f1))]; exact f2, ?_⟩
      cases o with
      | lst ys =>
        obtain ⟨ws, rfl, f4⟩ := f3
        exact ⟨ws, rfl, mono _ _ f4⟩
      | dct kvs =>
        obtain ⟨ws, rfl, f5, f4⟩ := f3
        exact ⟨ws, rfl, f5, mono _ _ f4⟩
    · obtain ⟨g1, ho, g2, g3⟩ := r.live i a ha
      exact ⟨g1, ho, by rw [upd_ne (fun z => hno i (by rw [← z]; exact ha))]; exact g2, g3⟩
    · rcases hd with z1 | ⟨u0, z1⟩
      · exact tabs_new r.tabs z1
      · exact tabs_put r.tabs z1 rfl
  refine ⟨fun i m H => ∃ ρ S acc us, Ext ρ1 S1 H1 ρ S H ∧ Rel C ρ S H ∧ RE C ρ H (wipeE E vs) (L2.wipe σ vs) ∧ H D = some (.lst us) ∧ RVs C ρ H acc.reverse us ∧ (∀ i, ρ i ≠ some D) ∧ acc.length + m ≤ n ∧ Fin (mLcGo g t e m (k0.adv i) acc (wipeE E vs) S), ⟨n, ρ1, S1, [], [], ?_⟩, ?_⟩
  · obtain ⟨b1, b2⟩ := beside [] r1 (.inl hD) noD
    have k0e : k0.adv 0 = k0 := by cases k0 <;> simp [Wk.adv]
    refine ⟨side _ r1.refl, b1, ?_, upd_same, rvs_nil.mpr rfl, noD, by simp, by rw [k0e]; exact h0⟩
    exact (q.ext (side _ r1.refl) r1).wipe vs
  · intro i m H h
    obtain ⟨ρ, S, acc, us, e0, r, qe, hd, hu, hno, hlen, hF⟩ := h
    cases m with
    | zero => exact hF.elim
    | succ m =>
      unfold mLcGo at hF
      cases es : (k0.adv i).step S with
      | none => rw [es] at hF; exact hF.elim
      | some o =>
        cases o with
        | none =>
          rw [es] at hF
          exact .inl ⟨sim.stop i ρ S H e0 r es, hF ρ H us e0 r hd hu hno⟩
        | some p =>
          obtain ⟨v, k'⟩ := p
          rw [es] at hF
          dsimp only at hF
          obtain ⟨ek, hgo, hyld⟩ := sim.go i ρ S H v k' e0 r es
          subst ek
          cases eb : bindT g v (wipeE E vs) with
          | none => rw [eb] at hF; exact hF.elim
          | some E1 =>
            rw [eb] at hF
            dsimp only at hF
            refine .inr ⟨hgo, fun H' => ∃ ρ S acc us, Ext ρ1 S1 H1 ρ S H' ∧ Rel C ρ S H' ∧ RE C ρ H' (wipeE E vs) (L2.wipe σ vs) ∧ H' D = some (.lst us) ∧ RVs C ρ H' acc.reverse us ∧ (∀ i, ρ i ≠ some D) ∧ acc.length + m ≤ n ∧ Fin (mLcGo g t e m (k0.adv (i + 1)) acc (wipeE E vs) S),
              fun H' z => ⟨m, Nat.lt_succ_self m, z⟩, fun x H' hy => ?_⟩
            obtain ⟨e2, r2, x2⟩ := hyld x H' hy
            refine ⟨ρ, wipeE E vs, S, v, E1, qe.ext e2 r, r2, x2, eb, fun σ2 q2 o2 => ⟨wipe_only o2 hv, ?_⟩⟩
            have D2 : H' D = some (.lst us) := e2.frame D _ hd rfl fun i _ => hno i
            have U2 := RVs.ext e2 r _ _ hu
            have E02 := e0.trans e2
            have Q2 := qe.ext e2 r
            -- the test
            cases et : t E1 S with
            | no => rw [et] at hF; exact hF.elim
            | ex x S2 => rw [et] at hF; exact hF.elim
            | ok c S2 =>
              refine ⟨ρ, E1, S, q2, r2, ?_⟩
              rw [et]
              rw [et] at hF
              intro ρ3 H3 c' e3 r3 hc
              cases hc
              have no3 : ∀ i, ρ3 i ≠ some D := fun i z => by
                by_cases hl : i < S.top
                · exact hno i (e3.old i D z hl)
                · have := e3.fresh i D z (Nat.le_of_not_lt hl)
                  rw [D2] at this
                  cases this
              have D3 : H3 D = some (.lst us) := e3.frame D _ D2 rfl fun i _ => hno i
              have U3 := RVs.ext e3 r2 _ _ U2
              have E03 := E02.trans e3
              have Q3 := Q2.ext e3 r2
              cases c with
              | false =>
                rw [if_neg Bool.false_ne_true]
                exact ⟨ρ3, S2, acc, us, E03, r3, Q3, D3, U3, no3, by omega, hF⟩
              | true =>
                rw [if_pos rfl]
                dsimp only at hF
                cases ee : e E1 S2 with
                | no => rw [ee] at hF; exact hF.elim
                | ex x S2 => rw [ee] at hF; exact hF.elim
                | ok y S3 =>
                  rw [ee] at hF
                  refine ⟨ρ3, E1, S2, q2.ext e3 r2, r3, ?_⟩
                  rw [ee]
                  intro ρ4 H4 y' e4 r4 hy4
                  have no4 : ∀ i, ρ4 i ≠ some D := fun i z => by
                    by_cases hl : i < S2.top
                    · exact no3 i (e4.old i D z hl)
                    · have := e4.fresh i D z (Nat.le_of_not_lt hl)
                      rw [D3] at this
                      cases this
                  have D4 : H4 D = some (.lst us) := e4.frame D _ D3 rfl fun i _ => no3 i
                  have U4 := RVs.ext e4 r3 _ _ U3
                  obtain ⟨b1, b2⟩ := beside (us ++ [y']) r4 (.inr ⟨_, D4⟩) no4
                  refine ⟨us, D4, ?_, ρ4, S3, y :: acc, us ++ [y'], side _ (E03.trans e4), b1, ?_, upd_same, ?_, no4, ?_, hF⟩
                  · rw [hu.length, List.length_reverse, sizeLine_eq]
                    omega
                  · have Q4 := Q3.ext e4 r3
                    refine ⟨Q4.len, fun j z hz => ?_⟩
                    obtain ⟨w, w1, w2⟩ := Q4.at_ j z hz
                    obtain ⟨w3, w4, w5, w6, _⟩ := rvs_cons.mp (b2 [z] [w] (rvs_cons.mpr ⟨w, [], rfl, w2, rvs_nil.mpr rfl⟩))
                    cases w5
                    exact ⟨w, w1, w6⟩
                  · rw [List.reverse_cons]
                    exact b2 _ _ (U4.append (rvs_cons.mpr ⟨y', [], rfl, hy4, rvs_nil.mpr rfl⟩))
                  · rw [List.length_cons]
                    omega
theorem lc_mono {n : Nat} (hn : n ≤ 16777216) {mi : MI} {g : Tg} {t : MT} {e : ME} {vs : List Nat} (hv : ∀ i ∈ g.slots, i ∈ vs) {σ : L2.St} {H : Hp} {Q : VK} (h : tI C (mLc n mi g t e vs) W σ H Q) : tLc (tW C mi W) (gI C g) (tT C t W0) (tI C e W0) vs σ H Q := by
  obtain ⟨ρ, E, S, q, r, h⟩ := h
  have key : PK C (mi E S) ρ S H (fun J H1 => ∀ D, H1 D = none → ∃ Wv : Nat → Nat → Hp → Prop, (∃ m, Wv 0 m (upd H1 D (.lst []))) ∧ ∀ i m H, Wv i m H →
      (J.stop i H ∧ Q (.ref D) H) ∨ (J.go i H ∧ ∃ Nx : Hp → Prop, (∀ H', Nx H' → ∃ m', m' < m ∧ Wv (i + 1) m' H') ∧ ∀ x H', J.yld i H x H' → gI C g x (L2.wipe σ vs) H' fun σ2 H2 => L2.wipe σ2 vs = L2.wipe σ vs ∧ tT C t W0 σ2 H2 fun b H3 =>
        if b = true then tI C e W0 σ2 H3 fun y H4 => ∃ acc, H4 D = some (.lst acc) ∧ acc.length < sizeLine ∧ Nx (upd H4 D (.lst (acc ++ [y]))) else Nx H3)) (fun c d H' => W c d σ H') := by
    unfold mLc at h
    cases ek : mi E S with
    | no => rw [ek] at h; exact h
    | ex x S1 => rw [ek] at h; exact h
    | ok k S1 =>
      rw [ek] at h
      intro ρ1 H1 J e1 r1 sim D hD
      have h1 : PR C (RV C) ((mLcGo g t e n k [] (wipeE E vs) S1).bind fun xs S2 => R.ok (.ref S2.top) (S2.new (.lst xs))) ρ S H Q _ := h
      exact lc_turns hn hv (q.ext e1 r) r1 sim (h1.ext e1) D hD
  exact ⟨ρ, E, S, q, r, key⟩
theorem qe_lc {elt tg iter : Expr} {ifs : List Expr} {scope : Scope} {own : List (Str × Nat)} {pos : Pos} {mi : MI} {g : Tg} {t : MT} {e : ME} (n : Nat) (hn : n ≤ 16777216) (hc : X.calm = true) (hN : X.N.Nodup) (hi : PI X tg iter (tW C mi W)) (ok : BlkOk X.N X.env.scope scope own) (hv : ∀ i ∈ g.slots, i ∈ own.map (·.2))
    (hg : ∀ (s : Shared) (H : Hp) (D : Addr) (cl : List (Str × Addr)) (fp : List Addr), PG (X.blk s H scope (compEnvC scope cl D X.env) fp) tg (gI C g)) (ht : ∀ (s : Shared) (H : Hp) (D : Addr) (cl : List (Str × Addr)) (fp : List Addr), PTs (X.blk s H scope (compEnvC scope cl D X.env) fp) ifs (tT C t W0))
    (he : ∀ (s : Shared) (H : Hp) (D : Addr) (cl : List (Str × Addr)) (fp : List Addr), PE (X.blk s H scope (compEnvC scope cl D X.env) fp) elt (tI C e W0)) (hs : ∀ x, foldedSetIterable iter X.env x = pure x := by intro _; rfl) :
    PE X (.ListComp elt [⟨tg, iter, ifs, 0⟩] scope pos) (tI C (mLc n mi g t e (own.map (·.2))) W) :=
  pe_mono (pe_lc hc hN hi ok hg ht he hs) fun _ _ _ h => lc_mono hn hv h
theorem qs_setLc {i : Nat} {y : Str} {py : Pos} {elt tg iter : Expr} {ifs : List Expr} {scope : Scope} {own : List (Str × Nat)} {pos spos : Pos} {mi : MI} {g : Tg} {t : MT} {e : ME} (n : Nat) (hn : n ≤ 16777216) (hc : X.calm = true) (hN : X.N.Nodup) (hy : X.N[i]? = some y) (hyl : X.env.scope.names.lookup y = some .local)
    (hsw : swapsWith (.ListComp elt [⟨tg, iter, ifs, 0⟩] scope pos) (some (.Name y py)) spos.line X.env = pure true) (hi : PI X tg iter (tW C mi W)) (ok : BlkOk X.N X.env.scope scope own) (hv : ∀ i ∈ g.slots, i ∈ own.map (·.2))
    (hg : ∀ (s : Shared) (H : Hp) (D : Addr) (cl : List (Str × Addr)) (fp : List Addr), PG (X.blk s H scope (compEnvC scope cl D X.env) fp) tg (gI C g)) (ht : ∀ (s : Shared) (H : Hp) (D : Addr) (cl : List (Str × Addr)) (fp : List Addr), PTs (X.blk s H scope (compEnvC scope cl D X.env) fp) ifs (tT C t W0))
    (he : ∀ (s : Shared) (H : Hp) (D : Addr) (cl : List (Str × Addr)) (fp : List Addr), PE (X.blk s H scope (compEnvC scope cl D X.env) fp) elt (tI C e W0)) (hs : ∀ x, foldedSetIterable iter X.env x = pure x := by intro _; rfl) :
    PS X (.Assign [.Name y py] (.ListComp elt [⟨tg, iter, ifs, 0⟩] scope pos) spos) (tS C (mSet i (mLc n mi g t e (own.map (·.2)))) W) :=
  ps_mono (ps_setLc hc hN hy hyl hsw hi ok hg ht he hs) fun D σ H h => by
    obtain ⟨ρ, E, S, q, r, h⟩ := h
    exact lc_mono hn hv ⟨ρ, E, S, q, r, PR.mono (PF.to (rel := RV C) q r h) (fun x H1 ⟨ρ1, v, S1, e1, r1, x1, h1⟩ => PF.nxt h1 ((q.ext e1 r).set i x1) r1) fun _ _ _ z => z⟩
theorem qts_nil : PTs X [] (tT C mYes W) := by
  refine ⟨fun pins s σ H Q I h => pts_nil.run pins s σ H Q I ?_⟩
  obtain ⟨ρ, E, S, q, r, h⟩ := h
  exact PR.now (rel := relB) h r rfl
theorem qts_one {c : Expr} {t : MT} (h : PT X c (tT C t W)) : PTs X [c] (tT C t W) := pts_one h
end
end FX

set_option Elab.async false
set_option linter.all false
set_option maxRecDepth 100000
set_option maxHeartbeats 2000000
set_option autoImplicit false
/-! FX9: chains, list(range(..)), zip, a def's body, what the head tells. -/
namespace FX
open PySem PySem.Spec PyProof.Rows L2
section
variable {X : Cx} {C : Wd} {W : WX}
theorem qe_chain {a b c : Expr} {ma mb mc : ME} {op op' : CmpOp} {r r' : R2} {f g : MO} {pos : Pos} (ho : OpR X (compareOp op) r) (ho' : OpR X (compareOp op') r') (hf : OpF C f r) (hg : OpF C g r') (ha : PE X a (tI C ma W)) (hb : PE X b (tI C mb W)) (hc : PE X c (tI C mc W))
    (hm : lastMarks [op, op'] [b, c] = false := by with_unfolding_all rfl) : PE X (.Compare a [op, op'] [b, c] pos) (tI C (mChain f g ma mb mc) W) :=
  pe_mono (pe_chain ho ho' ha hb hc hm) fun _ _ _ h => chain_mono hf hg h
theorem qt_chain {a b c : Expr} {ma mb mc : ME} {op op' : CmpOp} {r r' : R2} {f g : MO} {pos : Pos} (ho : OpR X (compareOp op) r) (ho' : OpR X (compareOp op') r') (hf : OpF C f r) (hg : OpF C g r') (ha : PE X a (tI C ma W)) (hb : PE X b (tI C mb W)) (hc : PE X c (tI C mc W))
    (hm : lastMarks [op, op'] [b, c] = false := by with_unfolding_all rfl) : PT X (.Compare a [op, op'] [b, c] pos) (tT C (mTB (mChain f g ma mb mc)) W) :=
  pt_mono (pt_chain ho ho' ha hb hc hm) fun σ H Q h => by
    obtain ⟨ρ, E, S, q, r0, h⟩ := h
    refine chain_mono (C := C) (W := W) hf hg ⟨ρ, E, S, q, r0, PR.mono (PR.bind (rel := RV C) h) (fun x H1 ⟨ρ1, a, S1, e1, r1, x1, h1⟩ => ?_) fun _ _ _ z => z⟩
    split at h1
    · exact ⟨_, rv_bl.mp x1, PR.now (rel := relB) h1 r1 rfl⟩
    · exact h1.elim
/-! ### list(range(..)) -/
theorem rvs_range {ρ : Map} {H : Hp} (n : Nat) (a : Int) : RVs C ρ H (rangeI a n) ((List.range n).map fun i => V.int (a + (i : Nat))) := by
  induction n generalizing a with
  | zero => exact rvs_nil.mpr rfl
  | succ n ih =>
    rw [List.range_succ_eq_map, List.map_cons, List.map_map]
    refine rvs_cons.mpr ⟨.int a, _, by simp; rfl, rv_int.mpr rfl, ?_⟩
    have e : ((fun i : Nat => V.int (a + (i : Nat))) ∘ Nat.succ) = fun i : Nat => V.int (a + 1 + (i : Nat)) := by
      funext i
      show V.int _ = V.int _
      congr 1
      omega
    rw [e]
    exact ih (a + 1)
def rgFit (a b : Int) : Bool := in62 a && in62 b && Nat.ble (b - a).toNat 16777216
theorem rgFit_ok {a b : Int} (h : rgFit a b = true) : RgOk a b := by
  unfold rgFit at h
  rw [Bool.and_eq_true, Bool.and_eq_true] at h
  obtain ⟨h1, h2⟩ := in62_ok h.1.1
  obtain ⟨h3, h4⟩ := in62_ok h.1.2
  exact ⟨h1, h2, h3, h4, Nat.le_of_ble_eq_true h.2⟩
def mLstRg (f : IV → Sto → R IV) (m : ME) : ME := fun E S => (m E S).bind f
def fLstRg1 : IV → Sto → R IV := fun a S => match a with
  | .int b => bif rgFit 0 b then .ok (.ref S.top) (S.new (.lst (rangeI 0 b.toNat))) else .no
  | _ => .no
def fLstRg2 : MO := fun a b S => match a, b with
  | .int a, .int b => bif rgFit a b then .ok (.ref S.top) (S.new (.lst (rangeI a (b - a).toNat))) else .no
  | _, _ => .no
theorem qe_listRg1 {e : Expr} {m : ME} {p p2 pos pos2 : Pos} (hc : X.calm = true) (hg : Gl X "list") (hm : X.mg "list" = none) (hg2 : Gl X "range") (hm2 : X.mg "range" = none) (he : PE X e (tI C m W)) (na : starEach [e] X.env = (false, eval e X.env) :: starEach [] X.env := by rfl)
    (na2 : starEach [.Call (.Name "range" p) [e] [] pos] X.env = (false, eval (.Call (.Name "range" p) [e] [] pos) X.env) :: starEach [] X.env := by rfl) : PE X (.Call (.Name "list" p2) [.Call (.Name "range" p) [e] [] pos] [] pos2) (tI C (mU fLstRg1 m) W) :=
  pe_mono (pe_listRg hc hg hm (prg_1 hg2 hm2 he na) na2) fun σ H Q h => by
    obtain ⟨ρ, E, S, q, r0, h⟩ := h
    refine ⟨ρ, E, S, q, r0, PR.mono (PR.bind (rel := RV C) h) (fun x H1 ⟨ρ1, a, S1, e1, r1, x1, h1⟩ => ?_) fun _ _ _ z => z⟩
    unfold fLstRg1 at h1
    split at h1
    · rename_i b
      cases z : rgFit 0 b with
      | false => rw [z] at h1; exact h1.elim
      | true =>
        rw [z] at h1
        refine ⟨b, rv_int.mp x1, rgFit_ok z, fun l hl => ?_⟩
        have e : rgV 0 b = (List.range b.toNat).map fun i => V.int (0 + (i : Nat)) := by unfold rgV; rw [Int.sub_zero]
        rw [e]
        obtain ⟨g1, g2, g3⟩ := new_lst r1 hl (rvs_range (C := C) (ρ := ρ1) (H := H1) b.toNat 0)
        exact h1 _ _ _ g1 g2 g3
    · exact h1.elim
theorem fLstRg2_inv {a b : IV} {ρ : Map} {S : Sto} {H : Hp} {Q : VK} {W : XK} (h : PR C (RV C) (fLstRg2 a b S) ρ S H Q W) : ∃ i j, a = .int i ∧ b = .int j ∧ rgFit i j = true ∧ PR C (RV C) (.ok (.ref S.top) (S.new (.lst (rangeI i (j - i).toNat)))) ρ S H Q W := by
  unfold fLstRg2 at h
  split at h
  · rename_i i j
    cases z : rgFit i j with
    | false => rw [z] at h; exact h.elim
    | true => rw [z] at h; exact ⟨i, j, rfl, rfl, z, h⟩
  · exact h.elim
theorem qe_listRg2 {e e2 : Expr} {m m2 : ME} {p p2 pos pos2 : Pos} (hc : X.calm = true) (hg : Gl X "list") (hm : X.mg "list" = none) (hg2 : Gl X "range") (hm2 : X.mg "range" = none) (he : PE X e (tI C m W)) (he2 : PE X e2 (tI C m2 W)) (na : starEach [e, e2] X.env = (false, eval e X.env) :: starEach [e2] X.env := by rfl)
    (nb : starEach [e2] X.env = (false, eval e2 X.env) :: starEach [] X.env := by rfl)
    (hp : (backTo pos (starEach [e2] X.env)).any (·.1) = false := by rfl) (na2 : starEach [.Call (.Name "range" p) [e, e2] [] pos] X.env = (false, eval (.Call (.Name "range" p) [e, e2] [] pos) X.env) :: starEach [] X.env := by rfl) : PE X (.Call (.Name "list" p2) [.Call (.Name "range" p) [e, e2] [] pos] [] pos2) (tI C (mB fLstRg2 m m2) W) :=
  pe_mono (pe_listRg hc hg hm (prg_2 hg2 hm2 he he2 na nb hp) na2) fun σ H Q h => by
    obtain ⟨ρ, E, S, q, r0, h⟩ := h
    refine ⟨ρ, E, S, q, r0, PR.mono (PR.bind (rel := RV C) h) (fun x H1 ⟨ρ1, a, S1, e1, r1, x1, h1⟩ => ?_) fun _ _ _ z => z⟩
    refine ⟨ρ1, E, S1, q.ext e1 r0, r1, PR.mono (PR.bind (rel := RV C) h1) (fun y H2 ⟨ρ2, b, S2, e2, r2, y2, h2⟩ => ?_) fun _ _ _ z => z⟩
    obtain ⟨i, j, rfl, rfl, z, h3⟩ := fLstRg2_inv h2
    refine ⟨i, j, rv_int.mp (x1.ext e2 r1), rv_int.mp y2, rgFit_ok z, fun l hl => ?_⟩
    obtain ⟨g1, g2, g3⟩ := new_lst r2 hl (rvs_range (C := C) (ρ := ρ2) (H := H2) (j - i).toNat i)
    exact h3 _ _ _ g1 g2 g3
/-! ### methods of lists -/
def MetF (C : Wd) (f : IV → List IV → Sto → R IV) (r : V → List V → Hp → VK → Prop) : Prop := ∀ ρ S H a as x xs Q W, Rel C ρ S H → RV C ρ H a x → RVs C ρ H as xs → PR C (RV C) (f a as S) ρ S H Q W → r x xs H Q
def mMet (f : IV → List IV → Sto → R IV) (m : ME) (ms : MA) : ME := fun E S => (m E S).bind fun a S1 => match tyOf S1 a with
  | some .list => (ms E S1).bind fun as S2 => f a as S2
  | _ => .no
theorem tyV_list {ρ : Map} {S : Sto} {H : Hp} {a : IV} {x : V} (r : Rel C ρ S H) (e : tyOf S a = some .list) (h : RV C ρ H a x) : tyV C.K "list" x H := by
  cases a with
  | ref n =>
    unfold tyOf at e
    dsimp only at e
    split at e
    · rename_i g
      obtain ⟨b, vs, _, rfl, t, _⟩ := cell_at r h g
      exact Or.inl ⟨rfl, _, SqL.of t⟩
    · cases e
  | frz xs =>
    obtain ⟨b, vs, rfl, t, _⟩ := rv_frz.mp h
    exact Or.inl ⟨rfl, _, t.sq⟩
  | _ => cases e
theorem qe_met {o e : Expr} {es : List Expr} {name : Str} {id : String} {m : ME} {ms : MA} {f : IV → List IV → Sto → R IV} {r : V → List V → Hp → VK → Prop} {apos pos : Pos} (hK : X.K = C.K) (slot : Slot "list" name id) (hty : typeOf (.builtin id) = pure (.type "method_descriptor")) (hm : MtR X id r) (hf : MetF C f r) (ho : PE X o (tI C m W)) (ha : PA X (e :: es) (tA C ms W))
    (k : ∀ {t : TE} {ta : TA}, PE X o t → PA X (e :: es) ta → PE X (.Call (.Attribute o name apos) (e :: es) [] pos) (tBM X.K "list" r t ta)) : PE X (.Call (.Attribute o name apos) (e :: es) [] pos) (tI C (mMet f m ms) W) :=
  pe_mono (k ho ha) fun σ H Q h => by
    obtain ⟨ρ, E, S, q, r0, h⟩ := h
    refine ⟨ρ, E, S, q, r0, PR.mono (PR.bind (rel := RV C) h) (fun x H1 ⟨ρ1, a, S1, e1, r1, x1, h1⟩ => ?_) fun _ _ _ z => z⟩
    split at h1
    · rename_i et
      refine ⟨by rw [hK]; exact tyV_list r1 et x1, ρ1, E, S1, q.ext e1 r0, r1, PR.mono (PR.bind (rel := RVs C) h1) (fun y H2 ⟨ρ2, b, S2, e2, r2, y2, h2⟩ => ?_) fun _ _ _ z => z⟩
      exact hf ρ2 S2 H2 a b x y Q _ r2 (x1.ext e2 r1) y2 h2
    · exact h1.elim
def fAppend : IV → List IV → Sto → R IV := fun a as S => match a, as with
  | .ref n, [v] => (match S.get n with
    | some (.lst xs) => bif Nat.blt xs.length 16777216 then .ok .non (S.put n (.lst (xs ++ [v]))) else .no
    | _ => .no)
  | _, _ => .no
theorem fAppend_ok : MetF C fAppend rAppend := by
  intro ρ S H a as x xs Q W r ha has h
  unfold fAppend at h
  split at h
  · rename_i n v
    obtain ⟨y, rfl, hy⟩ := rvs_one has
    split at h
    · rename_i ys g
      obtain ⟨b, vs, h1, rfl, h3, h4⟩ := cell_at r ha g
      cases z : Nat.blt ys.length 16777216 with
      | false => rw [z] at h; exact h.elim
      | true =>
        rw [z] at h
        obtain ⟨e1, r1⟩ := put_lst r g h1 h3 (h4.append (rvs_cons.mpr ⟨y, [], rfl, hy, rvs_nil.mpr rfl⟩))
        refine ⟨b, vs, y, rfl, rfl, h3, ?_, h ρ _ _ e1 r1 (rv_non.mpr rfl)⟩
        rw [h4.length, sizeLine_eq]
        exact Nat.le_of_ble_eq_true z
    · exact h.elim
  · exact h.elim
/-! ### how many arguments -/
def LenA (ms : MA) (n : Nat) : Prop := ∀ E S as S', ms E S = .ok as S' → as.length = n
theorem lenA_nil : LenA mNil 0 := fun E S as S' h => by
  unfold mNil at h
  cases h
  rfl
theorem lenA_cons {m : ME} {ms : MA} {n : Nat} (h : LenA ms n) : LenA (mCons m ms) (n + 1) := fun E S as S' e => by
  unfold mCons at e
  cases e1 : m E S with
  | no => rw [e1] at e; cases e
  | ex x S1 => rw [e1] at e; cases e
  | ok v S1 =>
    rw [e1] at e
    have e : (ms E S1).bind (fun vs S2 => R.ok (v :: vs) S2) = .ok as S' := e
    cases e2 : ms E S1 with
    | no => rw [e2] at e; cases e
    | ex x S2 => rw [e2] at e; cases e
    | ok vs S2 =>
      rw [e2] at e
      cases e
      rw [List.length_cons, h E S1 vs _ e2]
end
/-! ### a def -/
def mDef (n : Nat) (b : MS) : MF := fun as S => match b (as.map some ++ List.replicate (n - as.length) none) S with
  | .nx _ S' => .ok .non S'
  | .rt v S' => .ok v S'
  | .ex e _ S' => .ex e S'
  | _ => .no
theorem re_start {C : Wd} {ρ : Map} {H : Hp} {N : List Str} : ∀ {as : List IV} {vs : List V}, RVs C ρ H as vs → RE C ρ H (as.map some ++ List.replicate (N.length - as.length) none) (L2.start N vs) := by
  intro as vs h
  have hl := h.length
  unfold L2.start
  rw [hl]
  refine ⟨by simp [hl], fun i x e => ?_⟩
  by_cases hi : i < as.length
  · rw [List.getElem?_append_left (by simpa using hi), List.getElem?_map] at e
    cases e2 : as[i]? with
    | none => rw [e2] at e; cases e
    | some y =>
      rw [e2] at e
      have ey : y = x := by simpa using e
      subst ey
      obtain ⟨v, hv, rv⟩ := h.get e2
      exact ⟨v, by rw [List.getElem?_append_left (by rw [List.length_map, hl]; exact hi), List.getElem?_map, hv]; rfl, rv⟩
  · rw [List.getElem?_append_right (by simpa using hi)] at e
    rw [List.getElem?_replicate] at e
    split at e <;> simp at e
section
variable {P : Program} {w : World} {K : PySem.W.Frag} {mg : Str → Option Value} {base : Heap} {C : Wd}
/-- a def stands in the text, its body is told by b -/
theorem qf_def {x qual : Str} {params : Arguments} {body : List Stmt} {scope : Scope} {dvs : List V} {kws : List (Str × V)} {f : Addr} {fd : FuncData} {N ps : List Str} {k : Nat} {b : MS} (F : FunD K x qual params body scope dvs kws f fd) (S : FnScope N ps scope)
    (hb : ∀ (cdv : Value) (A : Around) (outer : List Env) (s : Shared) (H : Hp) (E : XK), Room k (A.deeper (envOfC qual scope s.heap.objs.size f cdv)) → PSs (cxOf (L2.CX P w) P w K mg base N qual scope f cdv A outer s H E) body (tS C b (fun c d _ H => E c d H))) :
    FnOk P w K mg base (L2.CX P w) (k + 1) f fd ps (spI C ps.length (mDef N.length b)) := by
  refine F.ok S (fun vs H Q E h => h.1) fun cdv A outer s H vs Q E hr h => ⟨_, hb cdv A outer s H E hr, ?_⟩
  obtain ⟨hl, ρ, S0, as, r, hv, q⟩ := h
  refine ⟨ρ, _, S0, re_start hv, r, ?_⟩
  unfold mDef at q
  cases e : b (as.map some ++ List.replicate (N.length - as.length) none) S0 with
  | nx E' S' => rw [e] at q; exact fun ρ1 H1 σ1 e1 r1 _ => q ρ1 H1 .non e1 r1 (rv_non.mpr rfl)
  | rt v S' => rw [e] at q; exact q
  | bk E' S' => rw [e] at q; exact q.elim
  | ct E' S' => rw [e] at q; exact q.elim
  | ex x E' S' => rw [e] at q; exact fun ρ1 H1 σ1 c d e1 r1 _ x1 => q ρ1 H1 c d e1 r1 x1
  | no => rw [e] at q; exact q.elim
/-- a def of the text at its name -/
def Ok (P : Program) (w : World) (K : PySem.W.Frag) (mg : Str → Option Value) (base : Heap) (C : Wd) (k : Nat) (x : Str) (ps : List Str) (m : MF) : Prop :=
  ∃ fd, FnOk P w K mg base (L2.CX P w) k (He.ga K x) fd ps (spI C ps.length m) ∧ Binds K fd ps [] ∧ PySem.W.keepIn K (.ref (He.ga K x)) = true ∧ mg x = some (.ref (He.ga K x))
theorem qe_fn {X : Cx} {W : WX} {k j : Nat} {x : Str} {ps : List Str} {m : MF} {e : Expr} {es : List Expr} {ms : MA} {p pos : Pos} (ok : Ok X.prog X.w X.K X.mg X.base C k x ps m) (tk : Takes X W) (hr : Room j X.A) (hkj : k ≤ j) (hg : Gl X x)
    (ha : PA X (e :: es) (tA C ms W)) (hn : LenA ms ps.length) (hl : (e :: es).length = ps.length) (hdb : (x == ("__debug__" : Str)) = false := by decide) (he : starEach (e :: es) X.env = (false, eval e X.env) :: starEach es X.env := by rfl) (hpl : (backTo pos (starEach es X.env)).any (·.1) = false := by rfl) :
    PE X (.Call (.Name x p) (e :: es) [] pos) (tI C (mCallO m ms) W) := by
  obtain ⟨fd, F, hb, hk, hm⟩ := ok
  exact qe_call tk F (hr.mono hkj) hg hm hk hb ha hl hdb he hpl (fun E S as S' h => by rw [hn E S as S' h, hl])
end
end FX

set_option Elab.async false
set_option linter.all false
set_option maxRecDepth 100000
set_option maxHeartbeats 2000000
set_option autoImplicit false
/-! FX10: short words for the printer. -/
namespace FX
open PySem PySem.Spec PyProof.Rows L2
/-- the text's names by number -/
abbrev Cw (K : PySem.W.Frag) (g : Nat → Str) (f : Nat → Str) : Wd := ⟨K, fun n => He.ga K (g n), f, []⟩
section
variable {X : Cx} {C : Wd} {W : WX}
theorem qv (i : Nat) {x : Str} {pos : Pos} (hN : X.N[i]? = some x := by rfl) (hv : Vis X.env.scope x := by first | exact Or.inl rfl | exact Or.inr (Or.inl rfl) | exact Or.inr (Or.inr rfl)) (hd : (x == ("__debug__" : Str)) = false := by decide)
    (hcd : (x == ("__classdict__" : Str)) = false := by decide) : PE X (.Name x pos) (tI C (mV i) W) := qe_var hN hv hd hcd
theorem qg (i : Nat) {x : Str} {pos : Pos} (hN : X.N.Nodup) (hi : X.N[i]? = some x := by rfl) (hx : Loc X.env.scope x := by first | exact Or.inl rfl | exact Or.inr rfl) (hf : X.fn x = true ∨ X.env.scope.names.lookup x = some .local := by first | exact .inl rfl | exact .inr rfl) : PG X (.Name x pos) (gI C (.name i)) := qg_name hN hi hx hf
theorem qset (i : Nat) {x : Str} {e : Expr} {m : ME} {pos pos' : Pos} (hN : X.N.Nodup) (he : PE X e (tI C m W)) (hi : X.N[i]? = some x := by rfl) (hx : Loc X.env.scope x := by first | exact Or.inl rfl | exact Or.inr rfl) (hs : swapsWith e (some (.Name x pos')) pos.line X.env = pure false := by rfl) (hf : X.fn x = true ∨ X.env.scope.names.lookup x = some .local := by first | exact .inl rfl | exact .inr rfl) :
    PS X (.Assign [.Name x pos'] e pos) (tS C (mSet i m) W) := qs_set hN hi hx he hs hf
theorem qaug (i : Nat) {x : Str} {e : Expr} {m : ME} {op : Operator} {f : MO} {ti : TIp} {pos pos' : Pos} (hN : X.N.Nodup) (ho : PIp X op ti) (hfo : OpF C f ti) (he : PE X e (tI C m W)) (hi : X.N[i]? = some x := by rfl) (hx : Loc X.env.scope x := by first | exact Or.inl rfl | exact Or.inr rfl) (hf : X.fn x = true ∨ X.env.scope.names.lookup x = some .local := by first | exact .inl rfl | exact .inr rfl) :
    PS X (.AugAssign (.Name x pos') op e pos) (tS C (mAug i f m) W) := qs_aug hN hi hx he ho hfo hf
theorem qgint {x : Str} {i : Int} {pos : Pos} (hm : ∃ t, X.mg x = some (.int i t)) (hg : Gl X x := by rfl) (hd : (x == ("__debug__" : Str)) = false := by decide) : PE X (.Name x pos) (tI C (mC (.int i)) W) := by
  obtain ⟨t, h⟩ := hm
  exact qe_gint hg h hd
theorem rvs_ints {ρ : Map} {H : Hp} : ∀ ns : List Int, RVs C ρ H (ns.map IV.int) (ns.map V.int)
  | [] => rvs_nil.mpr rfl
  | n :: r => rvs_cons.mpr ⟨.int n, _, rfl, rv_int.mpr rfl, rvs_ints r⟩
/-- a tuple of numbers of the text -/
theorem qgtup {x : Str} {ns : List Int} {a : Addr} {pos : Pos} (hm : X.mg x = some (.ref a)) (ht : ∀ H, SqT C.K H a (ns.map V.int)) (hg : Gl X x := by rfl) (hd : (x == ("__debug__" : Str)) = false := by decide) : PE X (.Name x pos) (tI C (mC (.tup (ns.map IV.int))) W) :=
  qe_c (pe_glob hg hm (v := .ref a) rfl hd) fun ρ H => rv_tup.mpr ⟨a, _, rfl, ht H, rvs_ints ns⟩
theorem qcmp {a b : Expr} {ma mb : ME} {op : CmpOp} {r : R2} {f : MO} {pos : Pos} (ho : OpR X (compareOp op) r) (hf : OpF C f r) (ha : PE X a (tI C ma W)) (hb : PE X b (tI C mb W)) (hm : behindInMarks op b = false := by first | exact nomark _ | rfl) : PE X (.Compare a [op] [b] pos) (tI C (mB f ma mb) W) := qe_cmp ho hf ha hb hm
theorem qtcmp {a b : Expr} {ma mb : ME} {op : CmpOp} {r : R2} {f : MO} {pos : Pos} (ho : OpR X (compareOp op) r) (hf : OpF C f r) (ha : PE X a (tI C ma W)) (hb : PE X b (tI C mb W)) (hm : behindInMarks op b = false := by first | exact nomark _ | rfl) : PT X (.Compare a [op] [b] pos) (tT C (mTB (mB f ma mb)) W) := qt_cmp ho hf ha hb hm
theorem u64 {k : Nat} {A : Around} (hr : Room k A) : A.units + 64 < cLine := hr.units
theorem u65 {k : Nat} {A : Around} (hr : Room k A) : A.units + 65 < cLine := by have := hr.un; omega
theorem op_eqK (hK : X.K = C.K) (hu : X.A.units + 64 < cLine) : OpR X (compareOp .Eq) (rEqA C.K) := by rw [← hK]; exact op_eqA hu
theorem op_neK (hK : X.K = C.K) (hu : X.A.units + 64 < cLine) : OpR X (compareOp .NotEq) (rNeA C.K) := by rw [← hK]; exact op_neA hu
theorem op_inK (hK : X.K = C.K) (hu : X.A.units + 65 < cLine) : OpR X (compareOp .In) (rInA C.K) := by rw [← hK]; exact op_inA hu
theorem op_notInK (hK : X.K = C.K) (hu : X.A.units + 65 < cLine) : OpR X (compareOp .NotIn) (rNotInA C.K) := by rw [← hK]; exact op_notInA hu
/-! ### op= of numbers -/
def fAddI : MO := fun a b S => match a, b with
  | .int i, .int j => .ok (.int (i + j)) S
  | _, _ => .no
theorem fAddI_ok : OpF C fAddI (rI0 fun i j => .int (i + j)) := by
  intro ρ S H a b x y Q W r ha hb h
  unfold fAddI at h
  split at h
  · exact ⟨_, _, rv_int.mp ha, rv_int.mp hb, PR.now (v := IV.int _) h r (rv_int.mpr rfl)⟩
  · exact h.elim
def fDivS : MO := fun a b S => match a, b with
  | .int i, .int j => okI (decide (0 < j) && decide (j < 1073741824)) (i / j) S
  | _, _ => .no
theorem fDivS_ok : OpF C fDivS (rI CDiv fun i j => .int (i / j)) := by
  intro ρ S H a b x y Q W r ha hb h
  unfold fDivS at h
  split at h
  · obtain ⟨h1, h2⟩ := okI_pr r h
    rw [Bool.and_eq_true] at h1
    exact ⟨_, _, rv_int.mp ha, rv_int.mp hb, ⟨of_decide_eq_true h1.1, of_decide_eq_true h1.2⟩, h2⟩
  · exact h.elim
section
variable {e : Expr} {es : List Expr} {ms : MA} {p pos : Pos}
theorem qlen (hK : X.K = C.K) (hm : X.mg "len" = none) (ha : PA X [e] (tA C ms W)) (hg : Gl X "len" := by rfl) (he : starEach [e] X.env = (false, eval e X.env) :: starEach [] X.env := by rfl) : PE X (.Call (.Name "len" p) [e] [] pos) (tI C (mCall bLen ms) W) :=
  qe_callB (r := rLenA X.K) call_len (by rw [hK]; exact bLen_ok) hg hm PySem.boot_len ha (by decide) (by decide) he rfl
theorem qabs (hm : X.mg "abs" = none) (ha : PA X [e] (tA C ms W)) (hg : Gl X "abs" := by rfl) (he : starEach [e] X.env = (false, eval e X.env) :: starEach [] X.env := by rfl) : PE X (.Call (.Name "abs" p) [e] [] pos) (tI C (mCall bAbs ms) W) :=
  qe_callB call_abs bAbs_ok hg hm (by decide +kernel) ha (by decide) (by decide) he rfl
theorem qint (hm : X.mg "int" = none) (ha : PA X [e] (tA C ms W)) (hg : Gl X "int" := by rfl) (he : starEach [e] X.env = (false, eval e X.env) :: starEach [] X.env := by rfl) : PE X (.Call (.Name "int" p) [e] [] pos) (tI C (mCall bInt ms) W) :=
  qe_callTy call_int1 bInt_ok hg hm (by decide +kernel) ha (by decide) (by decide) he rfl
theorem qmax (hK : X.K = C.K) (hc : X.calm = true) (hm : X.mg "max" = none) (ha : PA X (e :: es) (tA C ms W)) (hg : Gl X "max" := by rfl) (he : starEach (e :: es) X.env = (false, eval e X.env) :: starEach es X.env := by rfl) (hpl : (backTo pos (starEach es X.env)).any (·.1) = false := by rfl) : PE X (.Call (.Name "max" p) (e :: es) [] pos) (tI C (mCall bMax ms) W) :=
  qe_callB (r := rMax2 X.K) (call_maxA hc) (by rw [hK]; exact bMax_ok) hg hm (by decide +kernel) ha (by decide) (by decide) he hpl
theorem qmin (hK : X.K = C.K) (hc : X.calm = true) (hm : X.mg "min" = none) (ha : PA X (e :: es) (tA C ms W)) (hg : Gl X "min" := by rfl) (he : starEach (e :: es) X.env = (false, eval e X.env) :: starEach es X.env := by rfl) (hpl : (backTo pos (starEach es X.env)).any (·.1) = false := by rfl) : PE X (.Call (.Name "min" p) (e :: es) [] pos) (tI C (mCall bMin ms) W) :=
  qe_callB (r := rMin2 X.K) (call_minA hc) (by rw [hK]; exact bMin_ok) hg hm (by decide +kernel) ha (by decide) (by decide) he hpl
theorem qsum (hK : X.K = C.K) (hc : X.calm = true) (hm : X.mg "sum" = none) (ha : PA X [e] (tA C ms W)) (hg : Gl X "sum" := by rfl) (he : starEach [e] X.env = (false, eval e X.env) :: starEach [] X.env := by rfl) : PE X (.Call (.Name "sum" p) [e] [] pos) (tI C (mCall bSum ms) W) :=
  qe_callB (r := rSum X.K) (cr_sum hc) (by rw [hK]; exact bSum_ok) hg hm (by decide +kernel) ha (by decide) (by decide) he rfl
theorem qall (hK : X.K = C.K) (hc : X.calm = true) (hm : X.mg "all" = none) (ha : PA X [e] (tA C ms W)) (hg : Gl X "all" := by rfl) (he : starEach [e] X.env = (false, eval e X.env) :: starEach [] X.env := by rfl) : PE X (.Call (.Name "all" p) [e] [] pos) (tI C (mCall bAll ms) W) :=
  qe_callB (r := rAll X.K) (cr_all hc) (by rw [hK]; exact bAll_ok) hg hm (by decide +kernel) ha (by decide) (by decide) he rfl
theorem qany (hK : X.K = C.K) (hc : X.calm = true) (hm : X.mg "any" = none) (ha : PA X [e] (tA C ms W)) (hg : Gl X "any" := by rfl) (he : starEach [e] X.env = (false, eval e X.env) :: starEach [] X.env := by rfl) : PE X (.Call (.Name "any" p) [e] [] pos) (tI C (mCall bAny ms) W) :=
  qe_callB (r := rAny X.K) (cr_any hc) (by rw [hK]; exact bAny_ok) hg hm (by decide +kernel) ha (by decide) (by decide) he rfl
theorem qtuple (hK : X.K = C.K) (hm : X.mg "tuple" = none) (ha : PA X [e] (tA C ms W)) (hg : Gl X "tuple" := by rfl) (he : starEach [e] X.env = (false, eval e X.env) :: starEach [] X.env := by rfl) : PE X (.Call (.Name "tuple" p) [e] [] pos) (tI C (mCall bTuple ms) W) :=
  qe_callTy call_tuple_of (by rw [hK]; exact bTuple_ok) hg hm (by decide +kernel) ha (by decide) (by decide) he rfl
theorem qlist (hK : X.K = C.K) (hm : X.mg "list" = none) (ha : PA X [e] (tA C ms W)) (hg : Gl X "list" := by rfl) (he : starEach [e] X.env = (false, eval e X.env) :: starEach [] X.env := by rfl) : PE X (.Call (.Name "list" p) [e] [] pos) (tI C (mCall bList ms) W) :=
  qe_callTy call_list_of (by rw [hK]; exact bList_ok) hg hm (by decide +kernel) ha (by decide) (by decide) he rfl
theorem qisinst (hK : X.K = C.K) (hm : X.mg "isinstance" = none) (ha : PA X (e :: es) (tA C ms W)) (hg : Gl X "isinstance" := by rfl) (he : starEach (e :: es) X.env = (false, eval e X.env) :: starEach es X.env := by rfl) (hpl : (backTo pos (starEach es X.env)).any (·.1) = false := by rfl) : PE X (.Call (.Name "isinstance" p) (e :: es) [] pos) (tI C (mCall bIsI ms) W) :=
  qe_callB (r := rIsi X.K) call_isi (by rw [hK]; exact bIsI_ok) hg hm (by decide +kernel) ha (by decide) (by decide) he hpl
theorem qdivmod (hm : X.mg "divmod" = none) (ha : PA X (e :: es) (tA C ms W)) (hg : Gl X "divmod" := by rfl) (he : starEach (e :: es) X.env = (false, eval e X.env) :: starEach es X.env := by rfl) (hpl : (backTo pos (starEach es X.env)).any (·.1) = false := by rfl) : PE X (.Call (.Name "divmod" p) (e :: es) [] pos) (tI C (mCall bDivmod ms) W) :=
  qe_callB call_divmod bDivmod_ok hg hm (by decide +kernel) ha (by decide) (by decide) he hpl
theorem qrepr (hm : X.mg "repr" = none) (ha : PA X [e] (tA C ms W)) (hg : Gl X "repr" := by rfl) (he : starEach [e] X.env = (false, eval e X.env) :: starEach [] X.env := by rfl) : PE X (.Call (.Name "repr" p) [e] [] pos) (tI C (mCall bRepr ms) W) :=
  qe_callB call_reprA bRepr_ok hg hm (by decide +kernel) ha (by decide) (by decide) he rfl
theorem qgcd (hm : X.mg "gcd" = some (.builtin "math.gcd")) (ha : PA X (e :: es) (tA C ms W)) (hg : Gl X "gcd" := by rfl) (he : starEach (e :: es) X.env = (false, eval e X.env) :: starEach es X.env := by rfl) (hpl : (backTo pos (starEach es X.env)).any (·.1) = false := by rfl) : PE X (.Call (.Name "gcd" p) (e :: es) [] pos) (tI C (mCall bGcd ms) W) :=
  qe_callFun cr_gcd bGcd_ok hg hm ha (by decide) he hpl
theorem qappend {o : Expr} {m : ME} {apos : Pos} (hK : X.K = C.K) (ho : PE X o (tI C m W)) (ha : PA X (e :: es) (tA C ms W))
    (k : ∀ {t : TE} {ta : TA}, PE X o t → PA X (e :: es) ta → PE X (.Call (.Attribute o "append" apos) (e :: es) [] pos) (tBM X.K "list" rAppend t ta)) : PE X (.Call (.Attribute o "append" apos) (e :: es) [] pos) (tI C (mMet fAppend m ms) W) :=
  qe_met hK PySem.F.slot_list_append PySem.F.type_list_append mt_append fAppend_ok ho ha k
end
end
end FX

set_option Elab.async false
set_option linter.all false
set_option maxRecDepth 100000
set_option maxHeartbeats 2000000
set_option autoImplicit false
/-! FX11: the head's facts with a check of one's own; a law's end. -/
namespace FX
open PySem PySem.Spec PyProof.Rows L2 He
/-! ### the Hook: hookD's facts and a check -/
def obsF (fa : List Fa) (fn : List DefD) (ck : PySem.W.Frag → Bool) (K : PySem.W.Frag) : AlD := ((fa.all fun f => f.ok K) && (ck K && fn.all fun d => d.ok K), fn.map fun d => fnW K d.at_)
def SaysF (fa : List Fa) (fn : List DefD) (ck : PySem.W.Frag → Bool) (K : PySem.W.Frag) : Prop := obsF fa fn ck K = valD fn
def obsFG (n : Nat) (fa : List Fa) (fn : List DefD) (ck : PySem.W.Frag → Bool) (g : Addr → Option Obj) : AlD := obsF fa fn ck (frG g (asD g n))
def hookF (n : Nat) (fa : List Fa) (fn : List DefD) (ck : PySem.W.Frag → Bool) : PySem.W.Hook where
  α := AlD
  obs := fun s => obsFG n fa fn ck s.heap.get?
  val := fun _ => valD fn
  says := fun _ h => ∃ K : PySem.W.Frag, K.In h ∧ SaysF fa fn ck K
  of := fun _ _ e => ⟨_, frG_in, e⟩
  keeps := fun _ _ _ ⟨K, hK, c⟩ k => ⟨K, PySem.W.Frag.In.keeps hK k, c⟩
theorem obsFG_eq {n : Nat} {fa : List Fa} {fn : List DefD} {ck : PySem.W.Frag → Bool} {g : Addr → Option Obj} {s : Shared} (h : ∀ a, g a = s.heap.get? a) : obsFG n fa fn ck g = (hookF n fa fn ck).obs s := by
  have e : g = s.heap.get? := funext h
  rw [e] <;> rfl
section
variable {fa : List Fa} {fn : List DefD} {ck : PySem.W.Frag → Bool} {K : PySem.W.Frag}
theorem SaysF.fact (c : SaysF fa fn ck K) (i : Nat) {f : Fa} (h : fa[i]? = some f := by rfl) : f.ok K = true := by
  have c1 := (ba (show ((fa.all fun f => f.ok K) && (ck K && fn.all fun d => d.ok K)) = true from congrArg (fun z : AlD => z.1) c)).1
  exact List.all_eq_true.mp c1 f (List.mem_of_getElem? h)
theorem SaysF.check (c : SaysF fa fn ck K) : ck K = true := (ba (ba (show ((fa.all fun f => f.ok K) && (ck K && fn.all fun d => d.ok K)) = true from congrArg (fun z : AlD => z.1) c)).2).1
theorem SaysF.def_ (c : SaysF fa fn ck K) (i : Nat) {d : DefD} (h : fn[i]? = some d := by rfl) : ∃ fd, FunD K d.name d.qual d.params d.body d.scope (d.dvs K) (d.kws K) (fAd K d.at_) fd := by
  have c2 := (ba (ba (show ((fa.all fun f => f.ok K) && (ck K && fn.all fun d => d.ok K)) = true from congrArg (fun z : AlD => z.1) c)).2).2
  have e : fn.map (fun d => fnW K d.at_) = fn.map DefD.val := congrArg (fun z : AlD => z.2) c
  have e2 : (fn.map fun d => fnW K d.at_)[i]? = (fn.map DefD.val)[i]? := by rw [e]
  rw [List.getElem?_map, List.getElem?_map, h] at e2
  exact DefD.funD (Option.some.inj e2) (List.all_eq_true.mp c2 d (List.mem_of_getElem? h))
end
/-- the module's name x is the built-in function id -/
def bltB (K : PySem.W.Frag) (x : Str) (id : String) : Bool := eqO (PySem.W.nsIn K mainGlobals x) (some (some (.builtin id)))
theorem bltB_ok {K : PySem.W.Frag} {h : Heap} {mg : Str → Option Value} (X : K.In h) (G : h.Ns mainGlobals mg) {x : Str} {id : String} (c : bltB K x id = true) : mg x = some (.builtin id) := PySem.W.mg_of X G (eqO_ok c)
/-! ### a law's end -/
theorem fnOk0 {P : Program} {w : World} {K : PySem.W.Frag} {mg : Str → Option Value} {base : Heap} {k : Nat} {f : Addr} {fd : FuncData} {ps : List Str} {sp : Sp} (F : FnOk P w K mg base (L2.CX P w) k f fd ps sp) :
    FnOk P w K mg base CX0 k f fd ps (fun vs H Q _ => sp vs H Q fun _ _ _ => False) :=
  ⟨fun vs H Q E h => F.len _ _ _ _ h, fun A outer s H args us vs Q E hr e0 hb hv hs => codeAny_mono (F.run A outer s H args us vs Q (fun _ _ _ => False) hr e0 hb hv hs) fun r s' hq => by
    cases r with
    | ok fl => cases fl <;> exact hq
    | error e =>
      obtain ⟨_, _, _, _, _, _, _, _, _, _, _, _, z⟩ := (show L2.CX P w outer H s (fun _ _ _ => False) e s' from hq)
      exact z.elim⟩
/-- the script is handed in -/
theorem law_sp {C : Wd} {m : MF} {n : Nat} (hm : ∀ ns : List Int, ns.length ≤ n → ∃ S, m [.frz (ns.map IV.int)] ⟨0, []⟩ = .ok (.bl true) S) {H : Hp} {a : Addr} {ns : List Int} (hl : ns.length ≤ n) (hO : Only H) (hS : SqL C.K H a (ns.map V.int)) (ht : LamX.Tabs C.T H := by exact fun _ h => nomatch h) :
    spI C 1 m [.ref a] H (fun v _ => v = .bl true) fun _ _ _ => False := by
  have hF : SqF C.K H a (ns.map V.int) := by
    rcases hS with (h | ⟨o, h⟩) | h
    · rcases hO a with z | ⟨o, xs, z⟩
      · rw [z] at h; cases h
      · rw [z] at h; cases h
    · exact .inl ⟨o, h⟩
    · exact .inr h
  have r : Rel C (fun _ => none) ⟨0, []⟩ H := ⟨fun i o g => (by rw [get_empty] at g; cases g), fun i j a h _ => (by cases h), fun i a h => (by cases h), ht⟩
  refine ⟨rfl, fun _ => none, ⟨0, []⟩, [.frz (ns.map IV.int)], r, rvs_cons.mpr ⟨.ref a, [], rfl, rv_frz.mpr ⟨a, _, rfl, hF, rvs_ints ns⟩, rvs_nil.mpr rfl⟩, ?_⟩
  obtain ⟨S, e⟩ := hm ns hl
  rw [e]
  exact fun ρ' H' x _ _ hx => rv_bl.mp hx
end FX

set_option Elab.async false
set_option linter.all false
set_option maxRecDepth 100000
set_option maxHeartbeats 2000000
set_option autoImplicit false
/-! FX12: a tuple or list backwards -/
namespace FX
open PySem PySem.Spec PyProof.Rows L2 HT
section
variable {prog : Program} {w : World} {A : Around} {E : Value → Shared → Prop} {s : Shared}
theorem adjust_back (n : Nat) : Builtin.Slice.sliceAdjust none none (-1) (n : Int) = ((n : Int) - 1, -1) := rfl
theorem places_back (n : Nat) : Builtin.Slice.slicePlaces ((n : Int) - 1) (-1) (-1) = n := by
  unfold Builtin.Slice.slicePlaces
  rw [if_neg (by decide)]
  cases n with
  | zero => rfl
  | succ n =>
    rw [if_pos (by omega)]
    show ((((n + 1 : Nat) : Int) - 1 - -1 - 1) / 1 + 1).toNat = n + 1
    rw [Int.ediv_one]
    omega
theorem applied_back {sl : Addr} {vl vu vs : Value} {n : Nat} {Q : Int × Int × Nat → Shared → Prop} (hs : s.heap.IsSliceOf sl vl vu vs) (pl : IsPart vl none) (pu : IsPart vu none) (ps : IsPart vs (some (-1)))
    (h : Q ((n : Int) - 1, -1, n) s) : wpAny (model prog w) A (Builtin.Slice.sliceApplied (.ref sl) (pure (n : Int))) Q E s := by
  obtain ⟨os, hos, hcs, hds⟩ := id hs
  unfold Builtin.Slice.sliceApplied Builtin.Slice.sliceFields
  refine wpAny_bind (wpAny_bind (wpAny_field hos hds (x := vl) rfl (wpAny_bind (wpAny_field hos hds (x := vu) rfl (wpAny_bind (wpAny_field hos hds (x := vs) rfl (wpAny_pure ?_)))))))
  refine wpAny_bind (slicePart_ ps ?_)
  show wpAny _ _ (if ((-1 : Int) == 0) = true then _ else _) _ _ s
  rw [if_neg (by decide)]
  refine wpAny_bind (slicePart_ pl (wpAny_bind (slicePart_ pu (wpAny_bind (wpAny_pure ?_)))))
  show wpAny _ _ (match Builtin.Slice.sliceAdjust none none (-1) (n : Int) with | (lo, hi) => pure (lo, (-1 : Int), Builtin.Slice.slicePlaces lo hi (-1))) _ _ s
  rw [adjust_back n]
  show wpAny _ _ (pure ((n : Int) - 1, (-1 : Int), Builtin.Slice.slicePlaces ((n : Int) - 1) (-1) (-1))) _ _ s
  rw [places_back]
  exact wpAny_pure h
theorem back_list {α : Type} (l : List α) : ((List.range l.length).filterMap fun (m : Nat) => l[l.length - 1 - m]?) = l.reverse := by
  apply List.ext_getElem?
  intro i
  have e : ((List.range l.length).filterMap fun (m : Nat) => l[l.length - 1 - m]?) = (List.range l.length).pmap (fun m (h : m < l.length) => l[l.length - 1 - m]) (fun m hm => List.mem_range.mp hm) := by
    have key : ∀ (r : List Nat) (hr : ∀ m ∈ r, m < l.length), (r.filterMap fun (m : Nat) => l[l.length - 1 - m]?) = r.pmap (fun m (h : m < l.length) => l[l.length - 1 - m]) hr := by
      intro r
      induction r with
      | nil => intro _; rfl
      | cons a r ih =>
        intro hr
        have ha := hr a (List.mem_cons_self ..)
        rw [List.filterMap_cons, List.getElem?_eq_getElem (by omega)]
        show l[l.length - 1 - a] :: _ = l[l.length - 1 - a] :: _
        rw [ih fun m hm => hr m (List.mem_cons_of_mem _ hm)]
    exact key _ _
  rw [e]
  by_cases hi : i < l.length
  · rw [List.getElem?_pmap]
    simp [hi, List.getElem?_reverse]
  · rw [List.getElem?_eq_none (by simp; omega), List.getElem?_eq_none (by simp; omega)]
theorem fm_congr {α β : Type} {f g : α → Option β} : ∀ {l : List α}, (∀ x ∈ l, f x = g x) → l.filterMap f = l.filterMap g
  | [], _ => rfl
  | a :: l, h => by
    rw [List.filterMap_cons, List.filterMap_cons, h a (List.mem_cons_self ..), fm_congr fun x hx => h x (List.mem_cons_of_mem _ hx)]
theorem pick_back (xs : Array Value) : ((List.range xs.size).filterMap fun (m : Nat) => xs[(((xs.size : Nat) : Int) - 1 + (m : Int) * -1).toNat]?).toArray = xs.toList.reverse.toArray := by
  have e : ∀ m ∈ List.range xs.size, xs[(((xs.size : Nat) : Int) - 1 + (m : Int) * -1).toNat]? = xs.toList[xs.toList.length - 1 - m]? := fun m hm => by
    have hm' := List.mem_range.mp hm
    have : (((xs.size : Nat) : Int) - 1 + (m : Int) * -1).toNat = xs.toList.length - 1 - m := by
      rw [Array.length_toList]
      omega
    rw [this, Array.getElem?_toList]
  rw [fm_congr e]
  have := back_list xs.toList
  rw [Array.length_toList] at this
  rw [Array.length_toList, this]
theorem getItem_tuple_back {t sl : Addr} {items : Array Value} {vl vu vs : Value} {Q : Value → Shared → Prop} (ht : IsTup s.heap t items) (hs : s.heap.IsSliceOf sl vl vu vs) (pl : IsPart vl none) (pu : IsPart vu none) (ps : IsPart vs (some (-1)))
    (h : Q (.ref s.heap.objs.size) { s with heap := s.heap.push { cls := .type "tuple", data := .seq items.toList.reverse.toArray } })
    (hsz : items.size ≤ sizeLine) : wpAny (model prog w) A (getItem (.ref t) (.ref sl)) Q E s := by
  have htake : sizeOk (.seq items.toList.reverse.toArray) := by
    show items.toList.reverse.toArray.size ≤ sizeLine
    rw [List.size_toArray, List.length_reverse, Array.length_toList]
    exact hsz
  obtain ⟨os, hos, hcs, hds⟩ := id hs
  have hTs : s.TypeIs (.ref sl) "slice" := ⟨os, hos, hcs⟩
  unfold getItem
  try with_reducible refine wpAny_holding ?_
  first | refine wpAny_bind (wpAny_pure ?_) | skip
  refine wpAny_bind (wpAny_sequenceKey ht.typeIs (by decide) ?_)
  refine wpAny_bind (wpAny_callSpecial?_slot (name := Str.ofString "__getitem__") ht.typeIs PyProof.Rows.slot_tuple_getitem
    (wpAny_call_entry PyProof.Rows.slot_tuple_getitem ht.typeIs entry_tuple_getitem ?_ (args_tuple_getitem _ _)))
  show wpAny _ _ (Builtin.Tuple.tupleItemsOf (.ref t) >>= _) _ _ s
  refine wpAny_bind (tupleItemsOf_ ht ?_)
  refine wpAny_bind (wpAny_typeOf hTs ?_)
  rw [if_pos (by decide)]
  refine wpAny_bind (applied_back hs pl pu ps ?_)
  have hno : ¬ ((((items.size : Int) - 1) == 0 && (-1 : Int) == 1 && items.size == items.size) = true) := by
    intro q
    rw [Bool.and_eq_true, Bool.and_eq_true] at q
    exact absurd (eq_of_beq q.1.2) (by decide)
  show wpAny _ _ (if (((items.size : Int) - 1) == 0 && (-1 : Int) == 1 && items.size == items.size) = true then _ else _) _ _ s
  rw [if_neg hno, pick_back]
  first
    | exact wpAny_bind (m := Builtin.Tuple.tupleExact _) (wpAny_newObj_type (wpAny_pure ⟨_, rfl, wpAny_pure h⟩) htake)
    | exact wpAny_bind (m := Builtin.Tuple.tupleExact _) (wpAny_newObj_type (wpAny_bind (wpAny_pure (wpAny_pure ⟨_, rfl, wpAny_pure h⟩))) htake)
    | exact wpAny_bind (wpAny_bind (m := Builtin.Tuple.tupleExact _) (wpAny_newObj_type (wpAny_pure (wpAny_pure ⟨_, rfl, wpAny_pure h⟩)) htake))
    | exact wpAny_bind (wpAny_bind (m := Builtin.Tuple.tupleExact _) (wpAny_newObj_type (wpAny_pure ⟨_, rfl, wpAny_pure h⟩) htake))
end
section
variable {X : Cx} {C : Wd} {W : WX}
def rRev (K : PySem.W.Frag) : V → Hp → VK → Prop := fun x H1 Q => ∃ a xs, x = .ref a ∧ ((SqL K H1 a xs ∧ ∀ p, H1 p = none → Q (.ref p) (upd H1 p (.lst xs.reverse))) ∨ (SqT K H1 a xs ∧ ∀ p, H1 p = none → Q (.ref p) (upd H1 p (.tup xs.reverse))))
theorem pe_rev {e : Expr} {te : TE} {k : Nat} {p1 p2 p3 pos : Pos} (he : PE X e te) : PE X (.Subscript e (.Slice none none (some (.UnaryOp .USub (.Constant (.int 1) k p1) p2)) p3) pos) (fun σ H Q => te σ H fun x H1 => rRev X.K x H1 Q) := by
  refine ⟨fun pins s σ H Q I h => ?_⟩
  refine Subscript_ (thn (he.run pins s σ H _ I h) fun v s1 ⟨x, H1, I1, r1, q1⟩ => ?_)
  obtain ⟨a, xs, ex, q1⟩ := q1
  subst ex
  cases r1
  have hst : PO X (some (.UnaryOp .USub (.Constant (.int 1) k p1) p2)) (tPart (tUn (rU fun i => .int (-i)) (tC (.int 1)))) := po_some (pe_un un_neg pe_int)
  refine wpAny_Slice (thn (po_none.run pins s1 σ H1 (fun o H2 => o = none ∧ H2 = H1) I1 ⟨rfl, rfl⟩) fun vl s2 ⟨l, H2, I2, pl, el, e2⟩ => ?_)
  subst el e2
  refine thn (po_none.run pins s2 σ H2 (fun o H3 => o = none ∧ H3 = H2) I2 ⟨rfl, rfl⟩) fun vu s3 ⟨u, H3, I3, pu, eu, e3⟩ => ?_
  subst eu e3
  refine thn (hst.run pins s3 σ H3 (fun o H4 => o = some (-1) ∧ H4 = H3) I3 ⟨1, rfl, -1, rfl, rfl, rfl⟩) fun vs s4 ⟨o, H4, I4, ps, eo, e4⟩ => ?_
  subst eo e4
  have I5 : Inv X pins σ H4 { s4 with heap := s4.heap.push { cls := .type "slice", data := .fields #[vl, vu, vs] } } := I4.kept (t' := s4.toks) fun b ob q => Heap.get?_push_of_some _ q
  show wpAny (model X.prog X.w) X.A (subscriptTail e (.Slice none none (some (.UnaryOp .USub (.Constant (.int 1) k p1) p2)) p3) (.ref a) (.ref s4.heap.objs.size)) (EP X pins σ Q) X.xe { s4 with heap := s4.heap.push { cls := .type "slice", data := .fields #[vl, vu, vs] } }
  rcases q1 with ⟨hx, q⟩ | ⟨hx, q⟩
  · obtain ⟨its, r, ht, hz⟩ := I5.list hx
    have hlen := r.length
    refine tail_any (ops := [.ref a, .ref s4.heap.objs.size]) ht.isList.typeIs (PySem.slot_list_getitem.lookup) ?_ (by with_unfolding_all rfl)
    refine wpAny_getItem_list_slice ht.isList (Heap.IsSliceOf.new _ vl vu vs) pl pu ps (by decide) ?_ (by rw [List.size_toArray]; omega)
    rw [PySem.W.krv_pick]
    refine ⟨.ref _, _, I5.laid (t' := s4.toks) (o := .lst xs.reverse) (fun b ob q => Heap.get?_push_of_some _ q) (Nat.le_refl _) ?_, rfl, q _ (I5.hok.fresh (Nat.le_refl _))⟩
    exact ⟨by rw [List.length_reverse]; exact hz, _, 0, r.reverse, Heap.get?_push_size _ rfl⟩
  · obtain ⟨its, r, ht, hz⟩ := I5.tuple hx
    have hlen := r.length
    refine tail_any (ops := [.ref a, .ref s4.heap.objs.size]) ht.typeIs (PyProof.Rows.slot_tuple_getitem.lookup) ?_ (by with_unfolding_all rfl)
    refine getItem_tuple_back ht (Heap.IsSliceOf.new _ vl vu vs) pl pu ps ?_ (by rw [List.size_toArray]; omega)
    refine ⟨.ref _, _, I5.laid (t' := s4.toks) (o := .tup xs.reverse) (fun b ob q => Heap.get?_push_of_some _ q) (Nat.le_refl _) ?_, rfl, q _ (I5.hok.fresh (Nat.le_refl _))⟩
    exact ⟨by rw [List.length_reverse]; exact hz, _, r.reverse, IsTup.new _ _⟩
def fRev : IV → Sto → R IV := fun a S => match a with
  | .tup xs => .ok (.tup xs.reverse) S
  | .ref n => (match S.get n with
    | some (.lst xs) => .ok (.ref S.top) (S.new (.lst xs.reverse))
    | _ => .no)
  | _ => .no
theorem qe_rev {e : Expr} {m : ME} {k : Nat} {p1 p2 p3 pos : Pos} (hK : X.K = C.K) (he : PE X e (tI C m W)) : PE X (.Subscript e (.Slice none none (some (.UnaryOp .USub (.Constant (.int 1) k p1) p2)) p3) pos) (tI C (mU fRev m) W) :=
  pe_mono (pe_rev he) fun σ H Q h => by
    obtain ⟨ρ, E, S, q, r, h⟩ := h
    refine ⟨ρ, E, S, q, r, PR.mono (PR.bind (rel := RV C) h) (fun x H1 ⟨ρ1, v, S1, e1, r1, x1, h1⟩ => ?_) fun _ _ _ z => z⟩
    rw [hK]
    unfold fRev at h1
    split at h1
    · obtain ⟨a, vs, rfl, t, w⟩ := rv_tup.mp x1
      refine ⟨a, vs, rfl, .inr ⟨t, fun p hp => ?_⟩⟩
      obtain ⟨g1, g2, g3⟩ := new_tup r1 hp w.reverse
      exact h1 _ _ _ g1 g2 g3
    · split at h1
      · rename_i g
        obtain ⟨a, vs, e2, rfl, t, w⟩ := cell_at r1 x1 g
        refine ⟨a, vs, rfl, .inl ⟨SqL.of t, fun p hp => ?_⟩⟩
        obtain ⟨g1, g2, g3⟩ := new_lst r1 hp w.reverse
        exact h1 _ _ _ g1 g2 g3
      · exact h1.elim
    · exact h1.elim
end
end FX

set_option Elab.async false
set_option linter.all false
set_option maxRecDepth 100000
set_option maxHeartbeats 2000000
set_option autoImplicit false
/-! FX13: enumerate over a tuple -/
namespace FX
open PySem PySem.Spec PyProof.Rows L2
def IteT (K : PySem.W.Frag) (a : Addr) : It :=
  ⟨fun i H => ∃ (xs : List V) (x : V), SqT K H a xs ∧ xs[i]? = some x, fun i H v H' => ∃ T x, v = .ref T ∧ H T = none ∧ H' = upd H T (.tup [.int (i : Nat), x]) ∧ ∀ xs, SqT K H a xs → xs[i]? = some x, fun i H => ∃ xs : List V, SqT K H a xs ∧ xs.length ≤ i⟩
section
variable {prog : Program} {w : World} {A : Around} {E : Value → Shared → Prop} {s : Shared}
theorem enumT_end {e it t : Addr} {i : Nat} {items : Array Value} {c : Int} {old : Value} {Q : Option Value → Shared → Prop} (hh : A.handled = none) (he : IsEnum s.heap e it c old) (hit : s.heap.IsTupleIter it t i) (ht : s.heap.IsTuple t items) (hx : items[i]? = none)
    (hQ : ∀ h', Heap.ExtBut it s.heap h' → Q none { s with heap := h' }) : wpAny (model prog w) A (pyNext (.ref e)) Q E s := by
  have hT : s.TypeIs (.ref e) "enumerate" := ⟨_, he, rfl⟩
  unfold pyNext
  refine wpAny_bind (wpAny_attempt (wpAny_callSpecial?_slot (name := Str.ofString "__next__") hT F.slot_enumerate_next
    (wpAny_call_entry F.slot_enumerate_next hT F.entry_enumerate_next ?_ (F.args_enumerate_next_1 _))))
  show wpAny _ _ (field (.ref e) 2 >>= _) _ _ _
  refine wpAny_bind (wpAny_field he rfl (x := .ref it) rfl ?_)
  refine wpAny_bind (wpAny_nextOf_tuple_end (A := A.in1) hh hit ht hx fun h' x he' hx' => ?_)
  obtain ⟨o, ho, hc⟩ := hx'
  refine wpAny_bind (wpAny_isInstance (T := "StopIteration") (b := true) ⟨o, ho, hc⟩ isSubtype_stop ?_)
  exact wpAny_pure (hQ _ he')
theorem call_enumT {t : Addr} {items : Array Value} {Q : Value → Shared → Prop} (hL : s.heap.IsTuple t items)
    (h : ∀ h', IsEnum h' (s.heap.objs.size + 1) s.heap.objs.size 0 .none → h'.IsTupleIter s.heap.objs.size t 0 → h'.objs.size = s.heap.objs.size + 2 →
      (∀ b o, s.heap.get? b = some o → h'.get? b = some o) → Q (.ref (s.heap.objs.size + 1)) { s with heap := h' }) :
    wpAny (model prog w) A (call (.type "enumerate") [.ref t]) Q E s := by
  obtain ⟨⟨c, dct, dt, sl⟩, hl, hc, n, hd⟩ := id hL
  replace hc : c = .type "tuple" := hc
  replace hd : dt = .seq items n := hd
  subst hc hd
  have mt : Meets (Builtin.«enumerate.__new__» ⟨[.type "enumerate", .ref t], []⟩) (fun _ R s => s.heap.get? t = some { cls := .type "tuple", dict := dct, data := .seq items n, slots := sl } ∧
      R (.ok (.ret (.ref (s.heap.push { cls := .type "tuple_iterator", data := .fields #[.ref t, .int 0 0] }).objs.size)))
        { s with heap := (s.heap.push { cls := .type "tuple_iterator", data := .fields #[.ref t, .int 0 0] }).push { cls := .type "enumerate", data := .fields #[.none, .bool false, .ref s.heap.objs.size, rawInt 0, .none, .none] } }) :=
    .of_wp fun prog w A R s h => by
      obtain ⟨hp, g, d, tk, os⟩ := s; obtain ⟨hl, h⟩ := h
      have hsub := sub_enumerate
      have hL : Heap.IsTuple (Shared.heap ⟨hp, g, d, tk, os⟩) t items := ⟨_, hl, rfl, n, rfl⟩
      wp_walk using AutoSeq1.wpAny_loadPart' hl
      refine wpAny_stack_any fun st => wpAny_pure ?_
      split
      · rename_i c _ _ _ _ _
        cases (c == Value.type "enumerate")
        · wp_walk using AutoSeq1.wpAny_loadPart' hl, wpAny_pyIter_tuple hL
          exact ⟨_, rfl, h⟩
        · wp_walk using AutoSeq1.wpAny_loadPart' hl, wpAny_pyIter_tuple hL
          exact ⟨_, rfl, h⟩
      · wp_walk using AutoSeq1.wpAny_loadPart' hl, wpAny_pyIter_tuple hL
        exact ⟨_, rfl, h⟩
  refine callType_new F.called_enumerate (by decide) (F.typeCall_enumerate_1 _) (F.newCall_enumerate_1 _) (fun obj => F.args_object_init_2 obj _) F.entry_enumerate_new
    mt ⟨hl, ?_⟩
  have hz : (s.heap.push { cls := .type "tuple_iterator", data := .fields #[.ref t, .int 0 0] }).objs.size = s.heap.objs.size + 1 := Heap.size_push ..
  show _ ∧ _
  rw [hz]
  have he : IsEnum ((s.heap.push { cls := .type "tuple_iterator", data := .fields #[.ref t, .int 0 0] }).push
      { cls := .type "enumerate", data := .fields #[.none, .bool false, .ref s.heap.objs.size, rawInt 0, .none, .none] }) (s.heap.objs.size + 1) s.heap.objs.size 0 .none := by
    have := Heap.get?_push_size (s.heap.push { cls := .type "tuple_iterator", data := .fields #[.ref t, .int 0 0] })
      (o := { cls := .type "enumerate", data := .fields #[.none, .bool false, .ref s.heap.objs.size, rawInt 0, .none, .none] }) rfl
    rw [hz] at this; exact this
  refine ⟨⟨_, he, rfl⟩, h _ he ⟨_, Heap.get?_push_of_some _ (Heap.get?_push_size _ rfl), rfl, rfl⟩ (by rw [Heap.size_push, hz]) fun b o x => Heap.get?_push_of_some _ (Heap.get?_push_of_some _ x)⟩
end
theorem turn_enumT {P : Program} {w : World} {K : PySem.W.Frag} {elts : List Expr} {kk : Nat} {tpos : Pos} (a e it : Addr) :
    Turn P w K (.Tuple elts kk tpos) (IteT K a) [e, it] e (fun i h => (∃ old, IsEnum h e it ((i : Nat) : Int) old) ∧ h.IsTupleIter it a i ∧ e ≠ it) where
  mem := by simp
  obj := fun i h st b hb => by
    obtain ⟨⟨old, he⟩, ⟨o, ho, hc, hd⟩, _⟩ := st
    have e' : b = e ∨ b = it := by simpa using hb
    rcases e' with z | z
    · rw [z]; exact ⟨_, he, fun v q => nomatch q⟩
    · rw [z]; exact ⟨o, ho, fun v q => by rw [hd] at q; cases q⟩
  keep := fun i h h' st k => let ⟨⟨old, he⟩, hi, hne⟩ := st; ⟨⟨old, k e (by simp) _ he⟩, hi.at fun o q => k it (by simp) o q, hne⟩
  item := by
    intro X hP hw hK hc i pins s σ H E I hf st hg
    subst hP hw hK
    obtain ⟨⟨old, he⟩, hit, hne⟩ := st
    obtain ⟨xs, x, hq, hx⟩ := hg
    obtain ⟨its, rv, p, hz⟩ := I.tuple hq
    obtain ⟨u, hu, ru⟩ := rv.get hx
    have hel : e < s.heap.objs.size := Heap.lt_size he
    have hil : it < s.heap.objs.size := by obtain ⟨_, q, _⟩ := hit; exact Heap.lt_size q
    have hea : e ≠ a := fun z => by
      obtain ⟨o, ho, hc', _⟩ := id p
      rw [← z, he] at ho
      cases ho
      exact absurd (show Value.type "enumerate" = Value.type "tuple" from hc') (by decide)
    have hia : a ≠ it := fun z => by
      obtain ⟨o, ho, hc', _⟩ := id p
      obtain ⟨o2, ho2, hc2, _⟩ := id hit
      rw [z, ho2] at ho
      cases ho
      rw [hc2] at hc'
      exact absurd hc' (by decide)
    have hlt : i < its.toArray.size := by
      have := rv.length
      have h2 := (List.getElem?_eq_some_iff.mp hx).1
      rw [List.size_toArray]
      omega
    refine wpAny_pyNext_enum_itemD (Draws.tuple (A := X.A.in1) (I.ok.hd hc) it a hia its.toArray) he ⟨hit, p⟩ hlt hne (by simp [hne, hea]) fun u' h' tk' hu' ho hst hT hsz hk => ?_
    have huu : u' = u := by
      have h1 : its.toArray[i]? = some u := by simpa using hu
      rw [h1] at hu'
      exact (Option.some.inj hu').symm
    subst huu
    refine ⟨_, rfl, wpAny_letOwnedTupleGo_enum (s := { s with heap := h', toks := tk' + 1 }) ho fun h'' he' sb => ?_⟩
    have hT2 : h''.get? s.heap.objs.size = some { cls := .type "tuple", data := .seq #[.int i tk', u'] } := (sb.2 _ (Nat.ne_of_gt hel)).trans hT
    have new : ObjOk X.prog X.w (upd H s.heap.objs.size (.tup [.int (i : Nat), x])) h'' s.heap.objs.size (.tup [.int (i : Nat), x]) :=
      ⟨by show 2 ≤ sizeLine; decide, [.int i tk', u'], .cons ⟨_, rfl⟩ (.cons ru .nil), ⟨_, hT2, rfl, _, rfl⟩⟩
    have I1 : Inv X pins σ (upd H s.heap.objs.size (.tup [.int (i : Nat), x])) { s with heap := h'', toks := tk' + 1 } :=
      I.turnedNew (ch := [e, it]) (fun b ob hb q => (sb.2 b (fun z => hb (by simp [z]))).trans (hk b ob (fun z => hb (by simp [z])) (fun z => hb (by simp [z])) q)) hf (Nat.le_refl _) new
    refine ⟨.ref s.heap.objs.size, _, I1, rfl, ⟨_, x, rfl, I.hok.fresh (Nat.le_refl _), rfl, fun ys hy => by rw [I.tuple_inj hy hq]; exact hx⟩, ⟨⟨u', ?_⟩, hst.1.at fun o q => (sb.2 it (Ne.symm hne)).trans q, hne⟩, fun b hb => ?_⟩
    · have e1 : ((i + 1 : Nat) : Int) = (i : Int) + 1 := by omega
      rw [e1]; exact he'
    · have hb' : b < s.heap.objs.size := by
        have e' : b = e ∨ b = it := by simpa using hb
        rcases e' with z | z
        · rw [z]; exact hel
        · rw [z]; exact hil
      rw [upd_ne (Nat.ne_of_lt hb')]
      exact (hf b hb).1
  done := by
    intro X hP hw hK hc i pins s σ H E I hf st hg
    subst hP hw hK
    obtain ⟨⟨old, he⟩, hit, hne⟩ := st
    obtain ⟨xs, hq, hx⟩ := hg
    obtain ⟨its, rv, p, hz⟩ := I.tuple hq
    obtain ⟨f0, f1, f2, f3, f4, f5⟩ := hf it (by simp)
    have hl := rv.length
    exact enumT_end (I.ok.hd hc) he hit p (by simp; omega) fun h' eb => ⟨rfl, I.turned (t' := s.toks) (fun b o hb q => eb b o hb q) f0 f1 f3 f4 f5⟩
  self := fun A i s Q E st h => let ⟨⟨_, he⟩, _⟩ := st; wpAny_pyIter_enum he h
def iEnumA (K : PySem.W.Frag) (ta : TA) : TI := fun σ H R => ta σ H fun vs H1 => ∃ a xs, vs = [.ref a] ∧ ((SqL K H1 a xs ∧ R (Ite K a) H1) ∨ (SqT K H1 a xs ∧ R (IteT K a) H1))
theorem pi_enumA {X : Cx} {e : Expr} {ta : TA} {p pos tpos : Pos} {elts : List Expr} {kk : Nat} (hg : Gl X "enumerate") (hm : X.mg "enumerate" = none) (ha : PA X [e] ta) (hs : starEach [e] X.env = [(false, eval e X.env)] := by rfl) :
    PI X (.Tuple elts kk tpos) (.Call (.Name "enumerate" p) [e] [] pos) (iEnumA X.K ta) := by
  refine ⟨fun pins s σ H R I h => ?_⟩
  refine Call_ (ld_blt I hg hm boot_enumerate (PyProof.Rows.callWith_type1 (thn (ha.run pos pins s σ H _ I h) fun us s1 ⟨vs, H1, I1, r1, q1⟩ => ?_) hs rfl))
  obtain ⟨a, xs, ex, q⟩ := q1
  subst ex
  have fresh : ∀ b, b ∈ [s1.heap.objs.size + 1, s1.heap.objs.size] → s1.heap.objs.size ≤ b := fun b hb => by
    have e' : b = s1.heap.objs.size + 1 ∨ b = s1.heap.objs.size := by simpa using hb
    rcases e' with z | z
    · rw [z]; exact Nat.le_add_right _ _
    · rw [z]; exact Nat.le_refl _
  cases r1 with
  | cons r rr =>
    cases rr
    cases r
    rcases q with ⟨hq, q⟩ | ⟨hq, q⟩
    · obtain ⟨its, rv, p', hz⟩ := I1.list hq
      refine call_enumerate_list p'.isList fun h' he hit hsz hk => wpAny_pyIter_enum he ?_
      have I2 : Inv X pins σ H1 { s1 with heap := h' } := I1.kept (t' := s1.toks) hk
      exact ⟨s1.heap.objs.size + 1, [s1.heap.objs.size + 1, s1.heap.objs.size], _, _, H1, rfl, I2, turn_enum a (s1.heap.objs.size + 1) s1.heap.objs.size, ⟨⟨.none, he⟩, hit, Nat.succ_ne_self _⟩, fun b hb => I1.fpOk (fresh b hb) (I1.hok.fresh (fresh b hb)), q⟩
    · obtain ⟨its, rv, p', hz⟩ := I1.tuple hq
      refine call_enumT p' fun h' he hit hsz hk => wpAny_pyIter_enum he ?_
      have I2 : Inv X pins σ H1 { s1 with heap := h' } := I1.kept (t' := s1.toks) hk
      exact ⟨s1.heap.objs.size + 1, [s1.heap.objs.size + 1, s1.heap.objs.size], _, _, H1, rfl, I2, turn_enumT a (s1.heap.objs.size + 1) s1.heap.objs.size, ⟨⟨.none, he⟩, hit, Nat.succ_ne_self _⟩, fun b hb => I1.fpOk (fresh b hb) (I1.hok.fresh (fresh b hb)), q⟩
end FX

set_option Elab.async false
set_option linter.all false
set_option maxRecDepth 100000
set_option maxHeartbeats 2000000
set_option autoImplicit false
/-! FX14: enumerate, as a function -/
namespace FX
open PySem PySem.Spec PyProof.Rows L2
def pairsI : Nat → List IV → List IV
  | _, [] => []
  | k, x :: r => .tup [.int (k : Nat), x] :: pairsI (k + 1) r
theorem pairsI_drop : ∀ (xs : List IV) (i k : Nat), (pairsI k xs).drop i = pairsI (k + i) (xs.drop i)
  | [], i, k => by simp [pairsI]
  | x :: xs, 0, k => by simp
  | x :: xs, i + 1, k => by
    show (pairsI (k + 1) xs).drop i = pairsI (k + (i + 1)) (xs.drop i)
    rw [pairsI_drop xs i (k + 1)]
    congr 1
    omega
section
variable {X : Cx} {C : Wd} {W : WX}
theorem pair_new {ρ : Map} {S : Sto} {H : Hp} {T : Addr} {i : Nat} {x : IV} {u : V} (r : Rel C ρ S H) (hT : H T = none) (ru : RV C ρ H x u) :
    Ext ρ S H ρ S (upd H T (.tup [.int (i : Nat), u])) ∧ Rel C ρ S (upd H T (.tup [.int (i : Nat), u])) ∧ RV C ρ (upd H T (.tup [.int (i : Nat), u])) (.tup [.int (i : Nat), x]) (.ref T) :=
  new_tup r hT (rvs_cons.mpr ⟨_, _, rfl, rv_int.mpr rfl, rvs_cons.mpr ⟨_, _, rfl, ru, rvs_nil.mpr rfl⟩⟩)
theorem sim_enumT {ρ : Map} {S : Sto} {H : Hp} {a : Addr} {xs : List IV} {vs : List V} (r0 : Rel C ρ S H) (t : SqT C.K H a vs) (h : RVs C ρ H xs vs) : SimJ C (IteT C.K a) (.items (pairsI 0 xs)) ρ S H where
  stop := fun i ρ' S' H' e r g => by
    refine ⟨vs, e.tup r0 t, ?_⟩
    rw [h.length]
    unfold Wk.adv at g
    dsimp only at g
    rw [pairsI_drop] at g
    cases z : xs.drop i with
    | nil => exact List.drop_eq_nil_iff.mp z
    | cons x q => rw [z] at g; unfold pairsI Wk.step at g; cases g
  go := fun i ρ' S' H' v k' e r g => by
    unfold Wk.adv at g
    dsimp only at g
    rw [pairsI_drop] at g
    cases z : xs.drop i with
    | nil => rw [z] at g; unfold pairsI Wk.step at g; cases g
    | cons x q =>
      rw [z] at g
      unfold pairsI Wk.step at g
      cases g
      have hx : xs[i]? = some x := by
        have := congrArg List.head? z
        rw [List.head?_drop] at this
        simpa using this
      obtain ⟨u, hu, ru⟩ := (RVs.ext e r0 _ _ h).get hx
      refine ⟨?_, ⟨vs, u, e.tup r0 t, hu⟩, ?_⟩
      · unfold Wk.adv
        dsimp only
        rw [pairsI_drop, ← List.drop_drop, z]
        congr 2
      · rintro x1 H1 ⟨T, x', rfl, hT, rfl, hall⟩
        have := hall vs (e.tup r0 t)
        rw [hu] at this
        cases this
        rw [Nat.zero_add]
        exact pair_new r hT ru
theorem sim_enumc {ρ : Map} {S : Sto} {H : Hp} {n : Nat} {a : Addr} (ha : ρ n = some a) : SimJ C (Ite C.K a) (.enumc n 0) ρ S H where
  stop := fun i ρ' S' H' e r g => by
    unfold Wk.adv at g
    unfold Wk.step at g
    dsimp only at g
    rw [Nat.zero_add] at g
    split at g
    · rename_i xs gx
      obtain ⟨b, ho, e1, e2, vs, rfl, e3⟩ := r.obj n _ gx
      rw [e.map n a ha] at e1
      cases e1
      split at g
      · cases g
      · rename_i z
        exact ⟨vs, SqL.of e2, by rw [e3.length]; exact List.getElem?_eq_none_iff.mp z⟩
    · cases g
  go := fun i ρ' S' H' v k' e r g => by
    unfold Wk.adv at g
    unfold Wk.step at g
    dsimp only at g
    rw [Nat.zero_add] at g
    split at g
    · rename_i xs gx
      obtain ⟨b, ho, e1, e2, vs, rfl, e3⟩ := r.obj n _ gx
      rw [e.map n a ha] at e1
      cases e1
      split at g
      · rename_i x z
        cases g
        obtain ⟨u, hu, ru⟩ := e3.get z
        refine ⟨by unfold Wk.adv; dsimp only; rw [Nat.zero_add], ⟨vs, u, SqL.of e2, hu⟩, ?_⟩
        rintro x1 H1 ⟨T, x', rfl, hT, rfl, hall⟩
        have := hall vs (SqL.of e2)
        rw [hu] at this
        cases this
        exact pair_new r hT ru
      · cases g
    · cases g
def fEnum : List IV → Sto → R Wk := fun as S => match as with
  | [.tup xs] => .ok (.items (pairsI 0 xs)) S
  | [.ref n] => (match S.get n with
    | some (.lst _) => .ok (.enumc n 0) S
    | _ => .no)
  | _ => .no
theorem qi_enum {e : Expr} {ms : MA} {p pos tpos : Pos} {elts : List Expr} {kk : Nat} (hK : X.K = C.K) (hg : Gl X "enumerate") (hm : X.mg "enumerate" = none) (ha : PA X [e] (tA C ms W)) (hs : starEach [e] X.env = [(false, eval e X.env)] := by rfl) :
    PI X (.Tuple elts kk tpos) (.Call (.Name "enumerate" p) [e] [] pos) (tW C (mWk fEnum ms) W) :=
  pi_mono (pi_enumA hg hm ha hs) fun σ H Q h => by
    obtain ⟨ρ, E, S, q, r, h⟩ := h
    refine ⟨ρ, E, S, q, r, PR.mono (PK.bind (rel := RVs C) h) (fun x H1 ⟨ρ1, v, S1, e1, r1, x1, h1⟩ => ?_) fun _ _ _ z => z⟩
    rw [hK]
    unfold fEnum at h1
    split at h1
    · obtain ⟨y, rfl, g⟩ := rvs_one x1
      obtain ⟨a, vs, rfl, t, w⟩ := rv_tup.mp g
      exact ⟨a, vs, rfl, .inr ⟨t, PK.now h1 r1 (sim_enumT r1 t w)⟩⟩
    · obtain ⟨y, rfl, g⟩ := rvs_one x1
      split at h1
      · rename_i gx
        obtain ⟨a, vs, e2, rfl, t, w⟩ := cell_at r1 g gx
        exact ⟨a, vs, rfl, .inl ⟨SqL.of t, PK.now h1 r1 (sim_enumc e2)⟩⟩
      · exact h1.elim
    · exact h1.elim
end
end FX

set_option Elab.async false
set_option linter.all false
set_option maxRecDepth 100000
set_option maxHeartbeats 2000000
set_option autoImplicit false
/-! FX15: whether an integer is in a range -/
namespace FX
open PySem PySem.Spec PyProof.Rows L2
section
variable {X : Cx} {C : Wd} {W : WX}
theorem cr_range1 : CallR X (.type "range") (fun vs H Q => ∃ j, vs = [V.int j] ∧ ∀ p, H p = none → Q (.ref p) (upd H p (.rng 0 j))) := by
  intro pins s σ H vs us Q I r h
  obtain ⟨j, rfl, q⟩ := h
  cases r with
  | cons r0 rr =>
    cases rr
    obtain ⟨u, rfl⟩ := r0
    refine call_range_1 ⟨.ref s.heap.objs.size, upd H s.heap.objs.size (.rng 0 j), I.laid (t' := s.toks + 1 + 1) (fun b o e => Heap.get?_push_of_some _ e) (Nat.le_refl _) ?_, rfl, q _ (I.hok.fresh (Nat.le_refl _))⟩
    exact ⟨s.toks, u, s.toks + 1, Heap.get?_push_size _ rfl⟩
theorem op_notIn_rng : OpR X (compareOp .NotIn) (fun x y H Q => ∃ i a lo hi, x = V.int i ∧ y = V.ref a ∧ H a = some (.rng lo hi) ∧ Q (.bl (!decide (lo ≤ i ∧ i < hi))) H) := by
  intro pins s σ H x y v u Q I rx ry h
  obtain ⟨i, a, lo, hi, rfl, rfl, ha, q⟩ := h
  obtain ⟨k, rfl⟩ := rx
  obtain rfl : u = Value.ref a := ry
  obtain ⟨t1, t2, t3, ho⟩ := I.hok a _ ha
  show wpAny _ _ (do return Value.bool (!(← contains (Value.ref a) (Value.int i k)))) _ _ s
  refine wpAny_bind (wpAny_contains_slot (T := "range") ⟨_, ho, rfl⟩ F.slot_range_contains (call_meets F.slot_range_contains ⟨_, ho, rfl⟩ F.entry_range_contains (F.args_range_contains_2 _ _) (q_contains a lo hi i t1 t2 t3 k)
    ⟨ho, wpAny_truthy_bool (wpAny_pure ⟨.bl _, H, I, rfl, ?_⟩)⟩))
  rw [place1]
  exact q
theorem new_rng {ρ : Map} {S : Sto} {H : Hp} {p : Addr} {lo hi : Int} (r : Rel C ρ S H) (hp : H p = none) : Ext ρ S H ρ S (upd H p (.rng lo hi)) ∧ Rel C ρ S (upd H p (.rng lo hi)) := new_any _ r hp
def fInR (neg : Bool) : IV → List IV → Sto → R IV := fun x as S => match x, as with
  | .int i, [.int j] => .ok (.bl (if neg then !decide (0 ≤ i ∧ i < j) else decide (0 ≤ i ∧ i < j))) S
  | _, _ => .no
def mInR (neg : Bool) (ma : ME) (ms : MA) : ME := fun E S => (ma E S).bind fun x S1 => (ms E S1).bind fun as S2 => fInR neg x as S2
theorem inR_mono {ma : ME} {ms : MA} {σ : L2.St} {H : Hp} {Q : VK} (h : tI C (mInR false ma ms) W σ H Q) :
    tOp (fun x y H Q => ∃ i a lo hi, x = V.int i ∧ y = V.ref a ∧ H a = some (.rng lo hi) ∧ Q (.bl (decide (lo ≤ i ∧ i < hi))) H) (tI C ma W) (tCB (fun vs H Q => ∃ j, vs = [V.int j] ∧ ∀ p, H p = none → Q (.ref p) (upd H p (.rng 0 j))) (tA C ms W)) σ H Q := by
  obtain ⟨ρ, E, S, q, r, h⟩ := h
  refine ⟨ρ, E, S, q, r, PR.mono (PR.bind (rel := RV C) h) (fun x H1 ⟨ρ1, v, S1, e1, r1, x1, h1⟩ => ?_) fun _ _ _ z => z⟩
  refine ⟨ρ1, E, S1, q.ext e1 r, r1, PR.mono (PR.bind (rel := RVs C) h1) (fun y H2 ⟨ρ2, w, S2, e2, r2, y2, h2⟩ => ?_) fun _ _ _ z => z⟩
  unfold fInR at h2
  split at h2
  · rename_i i j _
    obtain ⟨y0, rfl, g⟩ := rvs_one y2
    have ej := rv_int.mp g
    subst ej
    refine ⟨j, rfl, fun pp hp => ⟨i, pp, 0, j, rv_int.mp (x1.ext e2 r1), rfl, upd_same, ?_⟩⟩
    obtain ⟨g1, g2⟩ := new_rng (lo := 0) (hi := j) r2 hp
    exact h2 _ _ _ g1 g2 (rv_bl.mpr rfl)
  · exact h2.elim
theorem qe_inR {a n : Expr} {ma : ME} {ms : MA} {p pos pos2 : Pos} (hg : Gl X "range") (hm : X.mg "range" = none) (ha : PE X a (tI C ma W)) (hn : PA X [n] (tA C ms W)) (he : starEach [n] X.env = (false, eval n X.env) :: starEach [] X.env := by rfl)
    (hmk : behindInMarks .In (.Call (.Name "range" p) [n] [] pos) = false := by first | exact nomark _ | rfl) : PE X (.Compare a [.In] [.Call (.Name "range" p) [n] [] pos] pos2) (tI C (mInR false ma ms) W) :=
  pe_mono (pe_cmpR op_in_rng ha (pe_callTy cr_range1 hg hm (by rfl) hn (he := he)) hmk) fun σ H Q h => inR_mono h
theorem qt_inR {a n : Expr} {ma : ME} {ms : MA} {p pos pos2 : Pos} (hg : Gl X "range") (hm : X.mg "range" = none) (ha : PE X a (tI C ma W)) (hn : PA X [n] (tA C ms W)) (he : starEach [n] X.env = (false, eval n X.env) :: starEach [] X.env := by rfl)
    (hmk : behindInMarks .In (.Call (.Name "range" p) [n] [] pos) = false := by first | exact nomark _ | rfl) : PT X (.Compare a [.In] [.Call (.Name "range" p) [n] [] pos] pos2) (tT C (mTB (mInR false ma ms)) W) :=
  pt_mono (pt_cmpR op_in_rng ha (pe_callTy cr_range1 hg hm (by rfl) hn (he := he)) hmk) fun σ H Q h => inR_mono (tb_mono h)
theorem notInR_mono {ma : ME} {ms : MA} {σ : L2.St} {H : Hp} {Q : VK} (h : tI C (mInR true ma ms) W σ H Q) :
    tOp (fun x y H Q => ∃ i a lo hi, x = V.int i ∧ y = V.ref a ∧ H a = some (.rng lo hi) ∧ Q (.bl (!decide (lo ≤ i ∧ i < hi))) H) (tI C ma W) (tCB (fun vs H Q => ∃ j, vs = [V.int j] ∧ ∀ p, H p = none → Q (.ref p) (upd H p (.rng 0 j))) (tA C ms W)) σ H Q := by
  obtain ⟨ρ, E, S, q, r, h⟩ := h
  refine ⟨ρ, E, S, q, r, PR.mono (PR.bind (rel := RV C) h) (fun x H1 ⟨ρ1, v, S1, e1, r1, x1, h1⟩ => ?_) fun _ _ _ z => z⟩
  refine ⟨ρ1, E, S1, q.ext e1 r, r1, PR.mono (PR.bind (rel := RVs C) h1) (fun y H2 ⟨ρ2, w, S2, e2, r2, y2, h2⟩ => ?_) fun _ _ _ z => z⟩
  unfold fInR at h2
  split at h2
  · rename_i i j _
    obtain ⟨y0, rfl, g⟩ := rvs_one y2
    have ej := rv_int.mp g
    subst ej
    refine ⟨j, rfl, fun pp hp => ⟨i, pp, 0, j, rv_int.mp (x1.ext e2 r1), rfl, upd_same, ?_⟩⟩
    obtain ⟨g1, g2⟩ := new_rng (lo := 0) (hi := j) r2 hp
    exact h2 _ _ _ g1 g2 (rv_bl.mpr rfl)
  · exact h2.elim
theorem qe_notInR {a n : Expr} {ma : ME} {ms : MA} {p pos pos2 : Pos} (hg : Gl X "range") (hm : X.mg "range" = none) (ha : PE X a (tI C ma W)) (hn : PA X [n] (tA C ms W)) (he : starEach [n] X.env = (false, eval n X.env) :: starEach [] X.env := by rfl)
    (hmk : behindInMarks .NotIn (.Call (.Name "range" p) [n] [] pos) = false := by first | exact nomark _ | rfl) : PE X (.Compare a [.NotIn] [.Call (.Name "range" p) [n] [] pos] pos2) (tI C (mInR true ma ms) W) :=
  pe_mono (pe_cmpR op_notIn_rng ha (pe_callTy cr_range1 hg hm (by rfl) hn (he := he)) hmk) fun σ H Q h => notInR_mono h
theorem qt_notInR {a n : Expr} {ma : ME} {ms : MA} {p pos pos2 : Pos} (hg : Gl X "range") (hm : X.mg "range" = none) (ha : PE X a (tI C ma W)) (hn : PA X [n] (tA C ms W)) (he : starEach [n] X.env = (false, eval n X.env) :: starEach [] X.env := by rfl)
    (hmk : behindInMarks .NotIn (.Call (.Name "range" p) [n] [] pos) = false := by first | exact nomark _ | rfl) : PT X (.Compare a [.NotIn] [.Call (.Name "range" p) [n] [] pos] pos2) (tT C (mTB (mInR true ma ms)) W) :=
  pt_mono (pt_cmpR op_notIn_rng ha (pe_callTy cr_range1 hg hm (by rfl) hn (he := he)) hmk) fun σ H Q h => notInR_mono (tb_mono h)
end
end FX

set_option Elab.async false
set_option linter.all false
set_option maxRecDepth 100000
set_option maxHeartbeats 4000000
set_option autoImplicit false
/-! FX16: a tuple times any small integer -/
namespace FX
open PySem PySem.Spec PyProof.Rows L2
theorem tuple_mul1 (l : Addr) (items : Array Value) (n : Nat) (dd : Option Addr) (sl : Array (Option Value)) (x : Int) (u : Tok) (c0 : (decide (x < -(2 ^ 63)) || decide (x ≥ 2 ^ 63)) = false) (c1 : (items.isEmpty || x == 1) = true) :
    Meets (Builtin.«tuple.__mul__» ⟨[.ref l, .int x u], []⟩) (fun _ R s => s.heap.get? l = some { cls := .type "tuple", dict := dd, data := .seq items n, slots := sl } ∧ R (.ok (.ret (Value.ref l))) s) :=
  .of_wp fun prog w A R s h => by
    obtain ⟨hp, g, d, tk, os⟩ := s
    obtain ⟨hl, h⟩ := h
    have f1 := AutoSeq1.idx_int
    wp_walk using wpAny_loadPart' hl
    repeat (first
      | (refine wpAny_ite_false (decide_eq_false (by rw [c0]; exact Bool.false_ne_true)) ?_; wp_walk using wpAny_loadPart' hl)
      | (refine wpAny_ite_true (decide_eq_true (by rw [c1])) ?_; wp_walk using wpAny_loadPart' hl))
    exact ⟨_, rfl, h⟩
theorem tuple_mul0 (l : Addr) (items : Array Value) (n : Nat) (dd : Option Addr) (sl : Array (Option Value)) (x : Int) (u : Tok) (c0 : (decide (x < -(2 ^ 63)) || decide (x ≥ 2 ^ 63)) = false) (c1 : (items.isEmpty || x == 1) = false) (c2 : (decide (x ≤ 0) || items.isEmpty) = true) :
    Meets (Builtin.«tuple.__mul__» ⟨[.ref l, .int x u], []⟩) (fun _ R s => s.heap.get? l = some { cls := .type "tuple", dict := dd, data := .seq items n, slots := sl } ∧
      R (.ok (.ret (Value.ref s.heap.objs.size))) { s with heap := s.heap.push { cls := Value.type "tuple", data := Data.seq #[] }, toks := s.toks }) :=
  .of_wp fun prog w A R s h => by
    obtain ⟨hp, g, d, tk, os⟩ := s
    obtain ⟨hl, h⟩ := h
    have f1 := AutoSeq1.idx_int
    wp_walk using wpAny_loadPart' hl
    repeat (first
      | (refine wpAny_ite_false (decide_eq_false (by rw [c0]; exact Bool.false_ne_true)) ?_; wp_walk using wpAny_loadPart' hl)
      | (refine wpAny_ite_false (decide_eq_false (by rw [c1]; exact Bool.false_ne_true)) ?_; wp_walk using wpAny_loadPart' hl)
      | (refine wpAny_ite_true (decide_eq_true (by rw [c2])) ?_; wp_walk using wpAny_loadPart' hl))
    exact ⟨_, rfl, h⟩
def rRepT01 (K : PySem.W.Frag) : R2 := fun x y H Q => ∃ l k xs, x = .ref l ∧ y = .int k ∧ SqT K H l xs ∧ -(2 ^ 63) ≤ k ∧ k < 2 ^ 63 ∧ (((xs = [] ∨ k = 1) ∧ Q (.ref l) H) ∨ (xs ≠ [] ∧ k ≤ 0 ∧ ∀ p, H p = none → Q (.ref p) (upd H p (.tup []))))
section
variable {X : Cx} {C : Wd} {W : WX}
theorem op_repT01 : OpR X (binaryOp .Mult) (rRepT01 X.K) := by
  intro pins s σ H x y v u Q I rx ry h
  obtain ⟨l, k, xs, rfl, rfl, hT, h1, h2, q⟩ := h
  cases rx
  obtain ⟨t, rfl⟩ := ry
  obtain ⟨its, r, ⟨⟨cls, dd, data, sl⟩, ho, hc, n, hd⟩, hs⟩ := I.tuple hT
  simp only at hc hd
  subst hc hd
  have hle : its.length = xs.length := r.length.symm
  have c0 : (decide (k < -(2 ^ 63)) || decide (k ≥ 2 ^ 63)) = false := by
    rw [decide_eq_false (by omega), decide_eq_false (by omega)] <;> rfl
  rcases q with ⟨hq, q⟩ | ⟨hne, hk, q⟩
  · have c1 : (its.toArray.isEmpty || k == 1) = true := by
      rcases hq with z | z
      · rw [z] at hle
        have : its = [] := List.eq_nil_of_length_eq_zero hle
        subst this
        rfl
      · subst z
        simp
    exact wpAny_binaryOp_repeat_ref (T := "tuple") (U := "int") (by decide) ⟨_, ho, rfl⟩ (fun s' => typeIs_int s' k t) noFill_tuple_mul F.fills_int_mul F.slot_int_rmul repeat_tuple F.slot_int_index.lookup
      (call_meets F.slot_int_rmul (typeIs_int s k t) F.entry_int_rmul (F.args_int_rmul_2 _ _) (int_rmul_tuple k t l its.toArray n dd sl)
        ⟨ho, rfl, ⟨_, ho, rfl⟩, call_meets F.slot_tuple_mul ⟨_, ho, rfl⟩ F.entry_tuple_mul (F.args_tuple_mul_2 _ _) (tuple_mul1 l its.toArray n dd sl k t c0 c1) ⟨ho, ⟨.ref l, H, I, rfl, q⟩⟩⟩)
  · have hn : its ≠ [] := fun e => hne (by
      rw [e] at hle
      exact List.eq_nil_of_length_eq_zero hle.symm)
    have hi : its.toArray.isEmpty = false := by
      cases its with
      | nil => exact absurd rfl hn
      | cons a b => rfl
    have c1 : (its.toArray.isEmpty || k == 1) = false := by
      rw [hi, Bool.false_or]
      exact beq_eq_false_iff_ne.mpr (by omega)
    have c2 : (decide (k ≤ 0) || its.toArray.isEmpty) = true := by
      rw [decide_eq_true hk]
      rfl
    refine wpAny_binaryOp_repeat_ref (T := "tuple") (U := "int") (by decide) ⟨_, ho, rfl⟩ (fun s' => typeIs_int s' k t) noFill_tuple_mul F.fills_int_mul F.slot_int_rmul repeat_tuple F.slot_int_index.lookup
      (call_meets F.slot_int_rmul (typeIs_int s k t) F.entry_int_rmul (F.args_int_rmul_2 _ _) (int_rmul_tuple k t l its.toArray n dd sl)
        ⟨ho, rfl, ⟨_, ho, rfl⟩, call_meets F.slot_tuple_mul ⟨_, ho, rfl⟩ F.entry_tuple_mul (F.args_tuple_mul_2 _ _) (tuple_mul0 l its.toArray n dd sl k t c0 c1 c2) ⟨ho, ?_⟩⟩)
    refine ⟨.ref s.heap.objs.size, _, I.laid (t' := s.toks) (o := .tup []) (fun b ob q => Heap.get?_push_of_some _ q) (Nat.le_refl _) ?_, rfl, q _ (I.hok.fresh (Nat.le_refl _))⟩
    exact ⟨Nat.zero_le _, [], .nil, IsTup.new _ _⟩
/-- as fMul, and a tuple times 0, 1 and less -/
def fMulT : MO := fun a b S => match a, b with
  | .tup xs, .int k => bif (xs.isEmpty || decide (k = 1)) && (decide (-(2 ^ 63) ≤ k) && decide (k < 2 ^ 63)) then .ok (.tup xs) S else bif decide (k ≤ 0) && (decide (-(2 ^ 63) ≤ k) && !xs.isEmpty) then .ok (.tup []) S else fMul (.tup xs) (.int k) S
  | a, b => fMul a b S
def rMulT (K : PySem.W.Frag) : R2 := fun x y H Q => rMulA K x y H Q ∨ rRepT01 K x y H Q
theorem fMulT_ok : OpF C fMulT (rMulT C.K) := by
  intro ρ S H a b x y Q W r ha hb h
  unfold fMulT at h
  split at h
  · rename_i xs k
    obtain ⟨p, vs, e1, t1, v1⟩ := rv_tup.mp ha
    cases z : ((xs.isEmpty || decide (k = 1)) && (decide (-(2 ^ 63) ≤ k) && decide (k < 2 ^ 63))) with
    | true =>
      rw [z] at h
      rw [Bool.and_eq_true, Bool.and_eq_true, Bool.or_eq_true] at z
      obtain ⟨z1, z2, z3⟩ := z
      refine .inr ⟨p, k, vs, e1, rv_int.mp hb, t1, of_decide_eq_true z2, of_decide_eq_true z3, .inl ⟨?_, ?_⟩⟩
      · rcases z1 with z1 | z1
        · exact .inl (v1.nil_iff.mpr (List.isEmpty_iff.mp z1))
        · exact .inr (of_decide_eq_true z1)
      · rw [← e1]
        exact PR.now (v := IV.tup xs) h r ha
    | false =>
      rw [z] at h
      dsimp only [cond_false] at h
      cases z' : (decide (k ≤ 0) && (decide (-(2 ^ 63) ≤ k) && !xs.isEmpty)) with
      | true =>
        rw [z'] at h
        rw [Bool.and_eq_true, Bool.and_eq_true] at z'
        obtain ⟨z1, z2, z3⟩ := z'
        have hk := of_decide_eq_true z1
        refine .inr ⟨p, k, vs, e1, rv_int.mp hb, t1, of_decide_eq_true z2, by omega, .inr ⟨fun n => ?_, hk, fun u hu => ?_⟩⟩
        · rw [v1.nil_iff.mp n] at z3
          cases z3
        · obtain ⟨g1, g2, g3⟩ := new_tup (C := C) (xs := []) (vs := []) r hu (rvs_nil.mpr rfl)
          exact h _ _ _ g1 g2 g3
      | false =>
        rw [z'] at h
        exact .inl (fMul_ok ρ S H _ _ x y Q W r ha hb h)
  · exact .inl (fMul_ok ρ S H _ _ x y Q W r ha hb h)
theorem qe_mulT {a b : Expr} {ma mb : ME} {pos : Pos} (hK : X.K = C.K) (ha : PE X a (tI C ma W)) (hb : PE X b (tI C mb W)) : PE X (.BinOp a .Mult b pos) (tI C (mB fMulT ma mb) W) := qe_op (r := rMulT X.K) (op_mulA.or op_repT01) (by rw [hK]; exact fMulT_ok) ha hb
end
end FX

set_option Elab.async false
set_option linter.all false
set_option maxRecDepth 100000
set_option maxHeartbeats 2000000
set_option autoImplicit false
/-! FX17: starred items of displays, zip, o[i] op= e -/
namespace FX
open PySem PySem.Spec PyProof.Rows L2
section
variable {X : Cx} {C : Wd} {W : WX}
def mStar (m : ME) (ms : MA) : MA := fun E S => (m E S).bind fun v S1 => match itemsOf S1 v with
  | some xs => (ms E S1).bind fun ys S2 => .ok (xs ++ ys) S2
  | none => .no
theorem qa_star {e : Expr} {es : List Expr} {m : ME} {ms : MA} {p : Pos} (hK : X.K = C.K) (ha : PE X e (tI C m W)) (hr : PA X es (tA C ms W)) (hs : starEach (.Starred e p :: es) X.env = (true, eval e X.env) :: starEach es X.env := by rfl) : PA X (.Starred e p :: es) (tA C (mStar m ms) W) :=
  pa_mono (StX.pa_star ha hr hs) fun σ H Q h => by
    obtain ⟨ρ, E, S, q, r0, h⟩ := h
    refine ⟨ρ, E, S, q, r0, PR.mono (PR.bind (rel := RV C) h) (fun x H1 ⟨ρ1, v, S1, e1, r1, x1, h1⟩ => ?_) fun _ _ _ z => z⟩
    have key : ∀ (a : Addr) (xs : List IV) (vs : List V), x = .ref a → (SqT X.K H1 a vs ∨ SqL X.K H1 a vs) → RVs C ρ1 H1 xs vs → PR C (RVs C) ((ms E S1).bind fun ys S2 => .ok (xs ++ ys) S2) ρ1 S1 H1 Q (fun c d H' => W c d σ H') → ∃ p xs, x = V.ref p ∧ (SqT X.K H1 p xs ∨ SqL X.K H1 p xs) ∧ tA C ms W σ H1 fun ys H2 => Q (xs ++ ys) H2 := by
      intro a xs vs ex hx rv hh
      refine ⟨a, vs, ex, hx, ρ1, E, S1, q.ext e1 r0, r1, PR.mono (PR.bind (rel := RVs C) hh) (fun ys H2 ⟨ρ2, b, S2, e2, r2, y2, h2⟩ => ?_) fun _ _ _ z => z⟩
      exact PR.now (rel := RVs C) h2 r2 ((RVs.ext e2 r1 _ _ rv).append y2)
    cases v with
    | tup xs =>
      obtain ⟨a, vs, ex, t, w⟩ := rv_tup.mp x1
      exact key a xs vs ex (.inl (by rw [hK]; exact t)) w h1
    | frz xs =>
      obtain ⟨a, vs, ex, t, w⟩ := rv_frz.mp x1
      exact key a xs vs ex (.inr (by rw [hK]; exact t.sq)) w h1
    | ref n =>
      have h1' : PR C (RVs C) (match itemsOf S1 (.ref n) with | some xs => (ms E S1).bind fun ys S2 => R.ok (xs ++ ys) S2 | none => R.no) ρ1 S1 H1 Q (fun c d H' => W c d σ H') := h1
      cases g : S1.get n with
      | none =>
        have e2 : itemsOf S1 (.ref n) = none := by show (match S1.get n with | some (.lst xs) => some xs | _ => none) = _; rw [g]
        rw [e2] at h1'
        exact h1'.elim
      | some o =>
        cases o with
        | dct kvs =>
          have e2 : itemsOf S1 (.ref n) = none := by show (match S1.get n with | some (.lst xs) => some xs | _ => none) = _; rw [g]
          rw [e2] at h1'
          exact h1'.elim
        | lst xs =>
          have e2 : itemsOf S1 (.ref n) = some xs := by show (match S1.get n with | some (.lst xs) => some xs | _ => none) = _; rw [g]
          rw [e2] at h1'
          obtain ⟨a, vs, _, ex, t, w⟩ := cell_at r1 x1 g
          exact key a xs vs ex (.inr (by rw [hK]; exact SqL.of t)) w h1'
    | non => exact h1.elim
    | bl b => exact h1.elim
    | int i => exact h1.elim
    | str s => exact h1.elim
    | glo n => exact h1.elim
    | ty t => exact h1.elim
/-! ### zip -/
def zipI : List IV → List IV → List IV
  | x :: xs, y :: ys => .tup [x, y] :: zipI xs ys
  | _, _ => []
theorem zipI_drop : ∀ (i : Nat) (xs ys : List IV), (zipI xs ys).drop i = zipI (xs.drop i) (ys.drop i)
  | 0, _, _ => by simp
  | i + 1, [], ys => by simp [zipI]
  | i + 1, x :: xs, [] => by
    show ([] : List IV).drop (i + 1) = zipI (xs.drop i) []
    cases xs.drop i <;> simp [zipI]
  | i + 1, x :: xs, y :: ys => by
    show (zipI xs ys).drop i = _
    rw [zipI_drop i xs ys]
    rfl
theorem two_new {ρ : Map} {S : Sto} {H : Hp} {T : Addr} {x y : IV} {u v : V} (r : Rel C ρ S H) (hT : H T = none) (ru : RV C ρ H x u) (rv : RV C ρ H y v) :
    Ext ρ S H ρ S (upd H T (.tup [u, v])) ∧ Rel C ρ S (upd H T (.tup [u, v])) ∧ RV C ρ (upd H T (.tup [u, v])) (.tup [x, y]) (.ref T) :=
  new_tup r hT (rvs_cons.mpr ⟨_, _, rfl, ru, rvs_cons.mpr ⟨_, _, rfl, rv, rvs_nil.mpr rfl⟩⟩)
theorem head_drop {xs : List IV} {i : Nat} {x : IV} {q : List IV} (z : xs.drop i = x :: q) : xs[i]? = some x := by
  have := congrArg List.head? z
  rw [List.head?_drop] at this
  simpa using this
theorem sim_zipT {ρ : Map} {S : Sto} {H : Hp} {a b : Addr} {xs ys : List IV} {vs ws : List V} (r0 : Rel C ρ S H) (t : SqT C.K H a vs) (h : RVs C ρ H xs vs) (t' : SqT C.K H b ws) (h' : RVs C ρ H ys ws) : SimJ C (RZ.ItzT C.K a b) (.items (zipI xs ys)) ρ S H where
  stop := fun i ρ' S' H' e r g => by
    refine ⟨vs, ws, e.tup r0 t, e.tup r0 t', ?_⟩
    rw [h.length, h'.length]
    unfold Wk.adv at g
    dsimp only at g
    rw [zipI_drop] at g
    cases z : xs.drop i with
    | nil => exact .inl (List.drop_eq_nil_iff.mp z)
    | cons x q =>
      cases z' : ys.drop i with
      | nil => exact .inr (List.drop_eq_nil_iff.mp z')
      | cons y q' => rw [z, z'] at g; unfold zipI Wk.step at g; cases g
  go := fun i ρ' S' H' v k' e r g => by
    unfold Wk.adv at g
    dsimp only at g
    rw [zipI_drop] at g
    cases z : xs.drop i with
    | nil => rw [z] at g; unfold zipI Wk.step at g; cases g
    | cons x q =>
      cases z' : ys.drop i with
      | nil => rw [z, z'] at g; unfold zipI Wk.step at g; cases g
      | cons y q' =>
        rw [z, z'] at g
        unfold zipI Wk.step at g
        cases g
        obtain ⟨u, hu, ru⟩ := (RVs.ext e r0 _ _ h).get (head_drop z)
        obtain ⟨u', hu', ru'⟩ := (RVs.ext e r0 _ _ h').get (head_drop z')
        refine ⟨?_, ⟨vs, ws, u, u', e.tup r0 t, e.tup r0 t', hu, hu'⟩, ?_⟩
        · unfold Wk.adv
          dsimp only
          rw [zipI_drop, ← List.drop_drop, z, ← List.drop_drop, z']
          rfl
        · rintro x1 H1 ⟨T, x', y', rfl, hT, rfl, hall, hall'⟩
          have h1 := hall vs (e.tup r0 t)
          rw [hu] at h1
          cases h1
          have h2 := hall' ws (e.tup r0 t')
          rw [hu'] at h2
          cases h2
          exact two_new r hT ru ru'
theorem sim_zipc {ρ : Map} {S : Sto} {H : Hp} {n m : Nat} {a b : Addr} (ha : ρ n = some a) (hb : ρ m = some b) : SimJ C (Itz C.K a b) (.zipc n m 0) ρ S H where
  stop := fun i ρ' S' H' e r g => by
    unfold Wk.adv at g
    unfold Wk.step at g
    dsimp only at g
    rw [Nat.zero_add] at g
    split at g
    · rename_i xs ys gx gy
      obtain ⟨c, ho, e1, e2, vs, rfl, e3⟩ := r.obj n _ gx
      rw [e.map n a ha] at e1
      cases e1
      obtain ⟨c, ho, f1, f2, ws, rfl, f3⟩ := r.obj m _ gy
      rw [e.map m b hb] at f1
      cases f1
      refine ⟨vs, ws, SqL.of e2, SqL.of f2, ?_⟩
      rw [e3.length, f3.length]
      cases z : xs[i]? with
      | none => exact .inl (List.getElem?_eq_none_iff.mp z)
      | some x =>
        cases z' : ys[i]? with
        | none => exact .inr (List.getElem?_eq_none_iff.mp z')
        | some y => rw [z, z'] at g; cases g
    · cases g
  go := fun i ρ' S' H' v k' e r g => by
    unfold Wk.adv at g
    unfold Wk.step at g
    dsimp only at g
    rw [Nat.zero_add] at g
    split at g
    · rename_i xs ys gx gy
      obtain ⟨c, ho, e1, e2, vs, rfl, e3⟩ := r.obj n _ gx
      rw [e.map n a ha] at e1
      cases e1
      obtain ⟨c, ho, f1, f2, ws, rfl, f3⟩ := r.obj m _ gy
      rw [e.map m b hb] at f1
      cases f1
      split at g
      · rename_i x y z z'
        cases g
        obtain ⟨u, hu, ru⟩ := e3.get z
        obtain ⟨u', hu', ru'⟩ := f3.get z'
        refine ⟨by unfold Wk.adv; dsimp only; rw [Nat.zero_add], ⟨vs, ws, u, u', SqL.of e2, SqL.of f2, hu, hu'⟩, ?_⟩
        rintro x1 H1 ⟨T, x', y', rfl, hT, rfl, hall, hall'⟩
        have h1 := hall vs (SqL.of e2)
        rw [hu] at h1
        cases h1
        have h2 := hall' ws (SqL.of f2)
        rw [hu'] at h2
        cases h2
        exact two_new r hT ru ru'
      · cases g
    · cases g
def fZip : List IV → Sto → R Wk := fun as S => match as with
  | [.tup xs, .tup ys] => .ok (.items (zipI xs ys)) S
  | [.ref n, .ref m] => (match S.get n, S.get m with
    | some (.lst _), some (.lst _) => .ok (.zipc n m 0) S
    | _, _ => .no)
  | _ => .no
theorem qi_zip {e e2 : Expr} {ms : MA} {p pos tpos : Pos} {elts : List Expr} {kk : Nat} (hK : X.K = C.K) (hg : Gl X "zip") (hm : X.mg "zip" = none) (ha : PA X [e, e2] (tA C ms W)) (hs : starEach [e, e2] X.env = (false, eval e X.env) :: starEach [e2] X.env := by rfl) (hpl : (backTo pos (starEach [e2] X.env)).any (·.1) = false := by rfl) :
    PI X (.Tuple elts kk tpos) (.Call (.Name "zip" p) [e, e2] [] pos) (tW C (mWk fZip ms) W) :=
  pi_mono (RZ.pi_zipA hg hm ha hs hpl) fun σ H Q h => by
    obtain ⟨ρ, E, S, q, r, h⟩ := h
    refine ⟨ρ, E, S, q, r, PR.mono (PK.bind (rel := RVs C) h) (fun x H1 ⟨ρ1, v, S1, e1, r1, x1, h1⟩ => ?_) fun _ _ _ z => z⟩
    rw [hK]
    unfold fZip at h1
    split at h1
    · obtain ⟨y, y', rfl, g, g'⟩ := rvs_two x1
      obtain ⟨a, vs, rfl, t, w⟩ := rv_tup.mp g
      obtain ⟨b, ws, rfl, t', w'⟩ := rv_tup.mp g'
      exact ⟨a, b, vs, ws, rfl, .inr ⟨t, t', PK.now h1 r1 (sim_zipT r1 t w t' w')⟩⟩
    · obtain ⟨y, y', rfl, g, g'⟩ := rvs_two x1
      split at h1
      · rename_i gx gy
        obtain ⟨a, vs, e2, rfl, t, w⟩ := cell_at r1 g gx
        obtain ⟨b, ws, e2', rfl, t', w'⟩ := cell_at r1 g' gy
        exact ⟨a, b, vs, ws, rfl, .inl ⟨SqL.of t, SqL.of t', PK.now h1 r1 (sim_zipc e2 e2')⟩⟩
      · exact h1.elim
    · exact h1.elim
/-! ### o[i] op= e -/
theorem get_list : PGet X (rIxL X.K) := by
  intro pins s σ H x y v u Q I rx ry h
  obtain ⟨p, xs, i, z, rfl, rfl, hq, he, q⟩ := h
  cases rx
  obtain ⟨t, rfl⟩ := ry
  obtain ⟨its, r, pl, hz⟩ := I.list hq
  obtain ⟨j, h1, h2, h3, h4, h5⟩ := atI_get he
  obtain ⟨w, ew, rw'⟩ := r.get h2
  have hl := r.length
  have hn := line63
  have fin : EP X pins σ Q w s := ⟨z, H, I, rw', q⟩
  by_cases h0 : 0 ≤ i
  · have hj : i.toNat = j := by
      rw [seqIndex_of h0 h5] at h1
      exact Option.some.inj h1
    exact wpAny_getItem_list (x := w) pl.isList h0 (by omega) (by rw [hj]; simpa using ew) fin
  · have hj : (i + (its.toArray.size : Int)).toNat = j := by
      rw [seqIndex_neg (by omega) h4] at h1
      rw [List.size_toArray, ← hl]
      exact Option.some.inj h1
    exact wpAny_getItem_list_neg (x := w) pl.isList (by omega) (by rw [List.size_toArray] <;> omega) (by omega) (by rw [hj]; simpa using ew) fin
def mAugS (o i : ME) (f : MO) (m : ME) : MS := fun E S => (o E S).to E fun a S1 => (i E S1).to E fun b S2 => match a with
  | .ref n => (fIx (.ref n) b S2).to E fun x S3 => (m E S3).to E fun y S4 => (f x y S4).to E fun z S5 => (match fPut (.ref n) b z S5 with
    | some S6 => .nx E S6
    | none => .no)
  | _ => .no
theorem qs_augS {o i e : Expr} {mo mi m : ME} {op : Operator} {f : MO} {ti : TIp} {pos tpos : Pos} (hK : X.K = C.K) (ho : PE X o (tI C mo W)) (hi : PE X i (tI C mi W)) (hop : PIp X op ti) (hfo : OpF C f ti) (he : PE X e (tI C m W))
    (ha : ∀ ov iv new, augStore i ov iv new = (do holding [new, ov, iv] (setItem ov iv new); release [new, ov, iv] []; pure .next) := by intros; rfl) : PS X (.AugAssign (.Subscript o i tpos) op e pos) (tS C (mAugS mo mi f m) W) :=
  ps_mono (ps_augS ho hi get_list he hop set_list ha) fun D σ H h => by
    obtain ⟨ρ, E, S, q, r, h⟩ := h
    refine ⟨ρ, E, S, q, r, PR.mono (PF.to (rel := RV C) q r h) (fun x H1 ⟨ρ1, a, S1, e1, r1, x1, h1⟩ => ?_) fun _ _ _ z => z⟩
    refine ⟨ρ1, E, S1, q.ext e1 r, r1, PR.mono (PF.to (rel := RV C) (q.ext e1 r) r1 h1) (fun y H2 ⟨ρ2, b, S2, e2, r2, x2, h2⟩ => ?_) fun _ _ _ z => z⟩
    cases a with
    | ref n =>
      have h2' : PF C ((fIx (.ref n) b S2).to E fun x S3 => (m E S3).to E fun y S4 => (f x y S4).to E fun z S5 => (match fPut (.ref n) b z S5 with | some S6 => .nx E S6 | none => .no)) ρ2 S2 H2 D W := h2
      have q2 := (q.ext e1 r).ext e2 r1
      have x1' := x1.ext e2 r1
      cases b with
      | int k =>
        cases g : S2.get n with
        | none =>
          exfalso
          have e3 : fIx (.ref n) (.int k) S2 = .no := by
            show (match (match S2.get n with | some (.lst xs) => some xs | _ => none) with | some xs => (match atI xs k with | some v => R.ok v S2 | none => R.no) | none => R.no) = _
            rw [g]
          rw [e3] at h2'
          exact h2'
        | some ob =>
          cases ob with
          | dct kvs =>
            exfalso
            have e3 : fIx (.ref n) (.int k) S2 = .no := by
              show (match (match S2.get n with | some (.lst xs) => some xs | _ => none) with | some xs => (match atI xs k with | some v => R.ok v S2 | none => R.no) | none => R.no) = _
              rw [g]
            rw [e3] at h2'
            exact h2'
          | lst xs =>
            obtain ⟨p, vs, e4, rfl, t, w⟩ := cell_at r2 x1' g
            cases ea : atI xs k with
            | none =>
              exfalso
              have e3 : fIx (.ref n) (.int k) S2 = .no := by
                show (match (match S2.get n with | some (.lst xs) => some xs | _ => none) with | some xs => (match atI xs k with | some v => R.ok v S2 | none => R.no) | none => R.no) = _
                rw [g]
                show (match atI xs k with | some v => R.ok v S2 | none => R.no) = _
                rw [ea]
              rw [e3] at h2'
              exact h2'
            | some v =>
              have e3 : fIx (.ref n) (.int k) S2 = .ok v S2 := by
                show (match (match S2.get n with | some (.lst xs) => some xs | _ => none) with | some xs => (match atI xs k with | some v => R.ok v S2 | none => R.no) | none => R.no) = _
                rw [g]
                show (match atI xs k with | some v => R.ok v S2 | none => R.no) = _
                rw [ea]
              rw [e3] at h2'
              have h3 : PF C ((m E S2).to E fun y S4 => (f v y S4).to E fun z S5 => (match fPut (.ref n) (.int k) z S5 with | some S6 => .nx E S6 | none => .no)) ρ2 S2 H2 D W := h2'
              have hv : ∃ u, atI vs k = some u ∧ RV C ρ2 H2 v u := by
                unfold atI at ea ⊢
                rw [w.length]
                cases ix : ixN xs.length k with
                | none => rw [ix] at ea; cases ea
                | some j =>
                  rw [ix] at ea
                  exact w.get ea
              obtain ⟨u, hu1, hu2⟩ := hv
              refine ⟨p, vs, k, u, rfl, rv_int.mp x2, by rw [hK]; exact SqL.of t, hu1, ρ2, E, S2, q2, r2, PR.mono (PF.to (rel := RV C) q2 r2 h3) (fun y' H3 ⟨ρ3, b', S3, e5, r3, x3, h4⟩ => ?_) fun _ _ _ z => z⟩
              refine hfo ρ3 S3 H3 v b' u y' _ _ r3 (hu2.ext e5 r2) x3 (PR.mono (PF.to (rel := RV C) (q2.ext e5 r2) r3 h4) (fun z H4 ⟨ρ4, w', S4, e6, r4, x4, h5⟩ => ?_) fun _ _ _ z => z)
              cases e7 : fPut (.ref n) (.int k) w' S4 with
              | none => rw [e7] at h5; exact h5.elim
              | some S5 =>
                rw [e7] at h5
                refine fPut_ok r4 ((x1'.ext e5 r2).ext e6 r3) ((x2.ext e5 r2).ext e6 r3) x4 e7 fun H5 e8 r5 => ?_
                exact h5 ρ4 H5 σ e8 r5 (((q2.ext e5 r2).ext e6 r3).ext e8 r4)
      | _ => exact h2'.elim
    | _ => exact h2.elim
end
end FX

set_option Elab.async false
set_option linter.all false
set_option maxRecDepth 100000
set_option maxHeartbeats 2000000
set_option autoImplicit false
/-! FX18: dicts whose keys are ints and texts -/
namespace FX
open PySem PySem.Spec PyProof.Rows L2
def keyI : IV → Option L2.Key
  | .int i => some (.inl i)
  | .str x => some (.inr x)
  | _ => none
def valI (kvs : List (L2.Key × IV)) (k : L2.Key) : Option IV := (kvs.find? fun kv => decide (kv.1 = k)).map (·.2)
def putI (kvs : List (L2.Key × IV)) (k : L2.Key) (v : IV) : List (L2.Key × IV) :=
  if (kvs.any fun kv => decide (kv.1 = k)) = true then kvs.map (fun kv => if kv.1 = k then (kv.1, v) else kv) else kvs ++ [(k, v)]
section
variable {X : Cx} {C : Wd} {W : WX}
theorem keyI_rv {ρ : Map} {H : Hp} {y : IV} {k : L2.Key} {u : V} (e : keyI y = some k) (h : RV C ρ H y u) : u = kV k := by
  cases y <;> first | (cases e; done) | skip
  · cases e; exact rv_int.mp h
  · cases e; exact rv_str.mp h
theorem valI_rel {ρ : Map} {H : Hp} (k : L2.Key) : ∀ (kvs : List (L2.Key × IV)) (ws : List (L2.Key × V)), ws.map (·.1) = kvs.map (·.1) → RVs C ρ H (kvs.map (·.2)) (ws.map (·.2)) →
    (∀ v, valI kvs k = some v → ∃ u, valV ws k = some u ∧ RV C ρ H v u) ∧ (valI kvs k = none → valV ws k = none)
  | [], [], _, _ => ⟨fun v h => (nomatch h), fun _ => rfl⟩
  | [], _ :: _, h, _ => by cases h
  | _ :: _, [], h, _ => by cases h
  | (k1, v1) :: r, (k2, v2) :: q, h, hv => by
    have h1 : k2 = k1 := (List.cons.inj h).1
    have h2 : q.map (·.1) = r.map (·.1) := (List.cons.inj h).2
    obtain ⟨u, t, e, hu, ht⟩ := rvs_cons.mp hv
    obtain ⟨rfl, rfl⟩ : v2 = u ∧ q.map (·.2) = t := ⟨(List.cons.inj e).1, (List.cons.inj e).2⟩
    by_cases hk : k1 = k
    · have e1 : valI ((k1, v1) :: r) k = some v1 := by simp [valI, List.find?_cons, hk]
      have e2 : valV ((k2, v2) :: q) k = some v2 := valV_pos (h1.trans hk)
      rw [e1, e2]
      exact ⟨fun v hv => (by cases hv; exact ⟨v2, rfl, hu⟩), fun z => (nomatch z)⟩
    · have e1 : valI ((k1, v1) :: r) k = valI r k := by simp [valI, List.find?_cons, hk]
      have e2 : valV ((k2, v2) :: q) k = valV q k := valV_neg (by rw [h1]; exact hk)
      rw [e1, e2]
      exact valI_rel k r q h2 ht
theorem putI_rel {ρ : Map} {H : Hp} (k : L2.Key) {v : IV} {u : V} (hu : RV C ρ H v u) (kvs : List (L2.Key × IV)) (ws : List (L2.Key × V)) (h : ws.map (·.1) = kvs.map (·.1)) (hv : RVs C ρ H (kvs.map (·.2)) (ws.map (·.2))) :
    (putK ws k u).map (·.1) = (putI kvs k v).map (·.1) ∧ RVs C ρ H ((putI kvs k v).map (·.2)) ((putK ws k u).map (·.2)) := by
  have ha : (ws.any fun kv => decide (kv.1 = k)) = (kvs.any fun kv => decide (kv.1 = k)) := by
    have e1 : (ws.any fun kv => decide (kv.1 = k)) = ((ws.map (·.1)).any fun x => decide (x = k)) := by rw [List.any_map]; rfl
    have e2 : (kvs.any fun kv => decide (kv.1 = k)) = ((kvs.map (·.1)).any fun x => decide (x = k)) := by rw [List.any_map]; rfl
    rw [e1, e2, h]
  unfold putK putI
  rw [ha]
  by_cases hk : (kvs.any fun kv => decide (kv.1 = k)) = true
  · rw [if_pos hk, if_pos hk]
    clear ha hk
    induction kvs generalizing ws with
    | nil =>
      cases ws with
      | nil => exact ⟨rfl, hv⟩
      | cons => cases h
    | cons p r ih =>
      cases ws with
      | nil => cases h
      | cons p2 q =>
        obtain ⟨k1, v1⟩ := p
        obtain ⟨k2, v2⟩ := p2
        have h1 : k2 = k1 := (List.cons.inj h).1
        have h2 : q.map (·.1) = r.map (·.1) := (List.cons.inj h).2
        obtain ⟨w, t, e, hw, ht⟩ := rvs_cons.mp hv
        obtain ⟨rfl, rfl⟩ : v2 = w ∧ q.map (·.2) = t := ⟨(List.cons.inj e).1, (List.cons.inj e).2⟩
        obtain ⟨i1, i2⟩ := ih q h2 ht
        subst h1
        by_cases hk : k2 = k
        · subst hk
          simp only [List.map_cons, if_true]
          exact ⟨congrArg (k2 :: ·) i1, rvs_cons.mpr ⟨u, _, rfl, hu, i2⟩⟩
        · simp only [List.map_cons, if_neg hk]
          exact ⟨congrArg (k2 :: ·) i1, rvs_cons.mpr ⟨v2, _, rfl, hw, i2⟩⟩
  · rw [if_neg hk, if_neg hk, List.map_append, List.map_append, List.map_append, List.map_append, h]
    exact ⟨rfl, hv.append (rvs_cons.mpr ⟨u, [], rfl, hu, rvs_nil.mpr rfl⟩)⟩
theorem dct_at {ρ : Map} {S : Sto} {H : Hp} {n : Nat} {kvs : List (L2.Key × IV)} {x : V} (r : Rel C ρ S H) (h : RV C ρ H (.ref n) x) (g : S.get n = some (.dct kvs)) : ∃ a ws, ρ n = some a ∧ x = .ref a ∧ H a = some (.dK ws) ∧ ws.map (·.1) = kvs.map (·.1) ∧ RVs C ρ H (kvs.map (·.2)) (ws.map (·.2)) := by
  obtain ⟨a, h1, h2⟩ := rv_ref.mp h
  obtain ⟨b, ho, e1, e2, e3⟩ := r.obj n _ g
  rw [h1] at e1
  cases e1
  obtain ⟨ws, rfl, e4, e5⟩ := e3
  exact ⟨a, ws, h1, h2, e2, e4, e5⟩
/-! ### {} -/
def mDNew : ME := fun _ S => .ok (.ref S.top) (S.new (.dct []))
theorem qe_dnew {pos : Pos} : PE X (.Dict [] [] pos) (tI C mDNew W) := pe_mono pe_dnewK fun σ H Q ⟨ρ, E, S, q, r, h⟩ p hp => by
  obtain ⟨g1, g2, g3⟩ := new_cell (io := .dct []) (ho := .dK []) r hp ⟨[], rfl, rfl, rvs_nil.mpr rfl⟩ rfl
  exact h _ _ _ g1 g2 g3
/-! ### d.get(k, x) -/
def fDGet2 (a y z : IV) (S : Sto) : R IV := match a, keyI y with
  | .ref n, some k => (match S.get n with
    | some (.dct kvs) => .ok ((valI kvs k).getD z) S
    | _ => .no)
  | _, _ => .no
def isDct (S : Sto) : IV → Bool
  | .ref n => (match S.get n with
    | some (.dct _) => true
    | _ => false)
  | _ => false
def mDGet2 (md mk mx : ME) : ME := fun E S => (md E S).bind fun a S1 => bif isDct S1 a then ((mk E S1).bind fun y S2 => (mx E S2).bind fun z S3 => fDGet2 a y z S3) else .no
theorem qe_dget2 {o e f : Expr} {md mk mx : ME} {apos cpos : Pos} (hu : X.A.units + 1 < cLine) (ho : PE X o (tI C md W)) (he : PE X e (tI C mk W)) (hf : PE X f (tI C mx W)) (m : M2 X o "get" apos e f cpos) : PE X (.Call (.Attribute o "get" apos) [e, f] [] cpos) (tI C (mDGet2 md mk mx) W) :=
  pe_mono (pe_dget2 hu ho he hf m) fun σ H Q h => by
    obtain ⟨ρ, E, S, q, r0, h⟩ := h
    refine ⟨ρ, E, S, q, r0, PR.mono (PR.bind (rel := RV C) h) (fun x H1 ⟨ρ1, a, S1, e1, r1, x1, h1⟩ => ?_) fun _ _ _ z => z⟩
    cases z : isDct S1 a with
    | false => rw [z] at h1; exact h1.elim
    | true =>
      rw [z] at h1
      have h1 : PR C (RV C) ((mk E S1).bind fun y S2 => (mx E S2).bind fun z S3 => fDGet2 a y z S3) ρ1 S1 H1 Q (fun c d H' => W c d σ H') := h1
      cases a with
      | ref n =>
        have z' : (match S1.get n with | some (.dct _) => true | _ => false) = true := z
        cases g : S1.get n with
        | none => rw [g] at z'; cases z'
        | some ob =>
          cases ob with
          | lst xs => rw [g] at z'; cases z'
          | dct kvs =>
            obtain ⟨b, ws, hb, rfl, hw, _, _⟩ := dct_at r1 x1 g
            refine ⟨b, rfl, .inl ⟨ws, .inl hw⟩, ρ1, E, S1, q.ext e1 r0, r1, PR.mono (PR.bind (rel := RV C) h1) (fun y H2 ⟨ρ2, y', S2, e2, r2, y2, h2⟩ => ?_) fun _ _ _ z => z⟩
            refine ⟨ρ2, E, S2, (q.ext e1 r0).ext e2 r1, r2, PR.mono (PR.bind (rel := RV C) h2) (fun w H3 ⟨ρ3, w', S3, e3, r3, w3, h3⟩ => ?_) fun _ _ _ z => z⟩
            have x3 := (x1.ext e2 r1).ext e3 r2
            have y3 := y2.ext e3 r2
            unfold fDGet2 at h3
            cases ek : keyI y' with
            | none => rw [ek] at h3; exact h3.elim
            | some k =>
              rw [ek] at h3
              have h3 : PR C (RV C) (match S3.get n with | some (.dct kvs) => .ok ((valI kvs k).getD w') S3 | _ => .no) ρ3 S3 H3 Q (fun c d H' => W c d σ H') := h3
              cases g3 : S3.get n with
              | none => rw [g3] at h3; exact h3.elim
              | some ob =>
                cases ob with
                | lst xs => rw [g3] at h3; exact h3.elim
                | dct kv3 =>
                  rw [g3] at h3
                  have h3 : PR C (RV C) (.ok ((valI kv3 k).getD w') S3) ρ3 S3 H3 Q (fun c d H' => W c d σ H') := h3
                  obtain ⟨b3, ws3, hb3, eb, hw3, f1, f2⟩ := dct_at r3 x3 g3
                  cases eb
                  obtain ⟨v1, v2⟩ := valI_rel k kv3 ws3 f1 f2
                  refine ⟨valV ws3 k, .inl ⟨ws3, k, .inl hw3, keyI_rv ek y3, rfl⟩, ?_⟩
                  cases ev : valI kv3 k with
                  | none =>
                    rw [ev] at h3
                    rw [v2 ev]
                    exact h3.now r3 w3
                  | some v =>
                    rw [ev] at h3
                    obtain ⟨u, eu, hu⟩ := v1 v ev
                    rw [eu]
                    exact h3.now r3 hu
      | _ => cases z
/-! ### k in d, d[k] -/
def fDIn : MO := fun y a S => match a, keyI y with
  | .ref n, some k => (match S.get n with
    | some (.dct kvs) => .ok (.bl (valI kvs k).isSome) S
    | _ => .no)
  | _, _ => .no
def fDIx : MO := fun a y S => match a, keyI y with
  | .ref n, some k => (match S.get n with
    | some (.dct kvs) => (match valI kvs k with
      | some v => .ok v S
      | none => .no)
    | _ => .no)
  | _, _ => .no
theorem qd_in {i o : Expr} {mi mo : ME} {pos : Pos} (hu : X.A.units + 1 < cLine) (hi : PE X i (tI C mi W)) (ho : PE X o (tI C mo W)) : PC X .In i o (tI C (mB fDIn mi mo) W) := by
  refine ⟨fun pins s σ H Q I h => (pc_din hu hi ho).run pins s σ H Q I ?_⟩
  obtain ⟨ρ, E, S, q, r0, h⟩ := h
  refine ⟨ρ, E, S, q, r0, PR.mono (PR.bind (rel := RV C) h) (fun y H1 ⟨ρ1, y', S1, e1, r1, y1, h1⟩ => ?_) fun _ _ _ z => z⟩
  refine ⟨ρ1, E, S1, q.ext e1 r0, r1, PR.mono (PR.bind (rel := RV C) h1) (fun x H2 ⟨ρ2, a, S2, e2, r2, x2, h2⟩ => ?_) fun _ _ _ z => z⟩
  have y2 := y1.ext e2 r1
  unfold fDIn at h2
  cases a with
  | ref n =>
    cases ek : keyI y' with
    | none => rw [ek] at h2; exact h2.elim
    | some k =>
      rw [ek] at h2
      have h2 : PR C (RV C) (match S2.get n with | some (.dct kvs) => .ok (.bl (valI kvs k).isSome) S2 | _ => .no) ρ2 S2 H2 Q (fun c d H' => W c d σ H') := h2
      cases g : S2.get n with
      | none => rw [g] at h2; exact h2.elim
      | some ob =>
        cases ob with
        | lst xs => rw [g] at h2; exact h2.elim
        | dct kvs =>
          rw [g] at h2
          have h2 : PR C (RV C) (.ok (.bl (valI kvs k).isSome) S2) ρ2 S2 H2 Q (fun c d H' => W c d σ H') := h2
          obtain ⟨b, ws, hb, eb, hw, f1, f2⟩ := dct_at r2 x2 g
          obtain ⟨v1, v2⟩ := valI_rel k kvs ws f1 f2
          refine ⟨b, valV ws k, eb, .inl ⟨ws, k, .inl hw, keyI_rv ek y2, rfl⟩, ?_⟩
          cases ev : valI kvs k with
          | none =>
            rw [ev] at h2
            rw [v2 ev]
            exact h2.now r2 (rv_bl.mpr rfl)
          | some v =>
            rw [ev] at h2
            obtain ⟨u, eu, _⟩ := v1 v ev
            rw [eu]
            exact h2.now r2 (rv_bl.mpr rfl)
  | _ => exact h2.elim
theorem qe_din {i o : Expr} {mi mo : ME} {pos : Pos} (hu : X.A.units + 1 < cLine) (hi : PE X i (tI C mi W)) (ho : PE X o (tI C mo W)) (h1 : behindInMarks .In o = false := by first | exact nomark _ | rfl) : PE X (.Compare i [.In] [o] pos) (tI C (mB fDIn mi mo) W) := pe_cmp (qd_in (pos := pos) hu hi ho) h1
theorem qt_din {i o : Expr} {mi mo : ME} {pos : Pos} (hu : X.A.units + 1 < cLine) (hi : PE X i (tI C mi W)) (ho : PE X o (tI C mo W)) (h1 : behindInMarks .In o = false := by first | exact nomark _ | rfl) : PT X (.Compare i [.In] [o] pos) (tT C (mTB (mB fDIn mi mo)) W) :=
  pt_mono (pt_cmp (qd_in (pos := pos) hu hi ho) h1) fun σ H Q ⟨ρ, E, S, q, r, h⟩ => by
    refine ⟨ρ, E, S, q, r, PR.mono (PR.bind (rel := RV C) h) (fun x H1 ⟨ρ1, v, S1, e1, r1, x1, h1⟩ => ?_) fun _ _ _ z => z⟩
    cases v with
    | bl b => exact ⟨b, rv_bl.mp x1, PR.now (rel := relB) h1 r1 rfl⟩
    | _ => exact h1.elim
theorem qe_dix {o i : Expr} {mo mi : ME} {pos : Pos} (hu : X.A.units + 1 < cLine) (ho : PE X o (tI C mo W)) (hi : PE X i (tI C mi W)) (hs : NoSl i) : PE X (.Subscript o i pos) (tI C (mB fDIx mo mi) W) :=
  pe_mono (pe_dget hu ho hi hs) fun σ H Q h => by
    obtain ⟨ρ, E, S, q, r0, h⟩ := h
    refine ⟨ρ, E, S, q, r0, PR.mono (PR.bind (rel := RV C) h) (fun x H1 ⟨ρ1, a, S1, e1, r1, x1, h1⟩ => ?_) fun _ _ _ z => z⟩
    refine ⟨ρ1, E, S1, q.ext e1 r0, r1, PR.mono (PR.bind (rel := RV C) h1) (fun y H2 ⟨ρ2, y', S2, e2, r2, y2, h2⟩ => ?_) fun _ _ _ z => z⟩
    have x2 := x1.ext e2 r1
    unfold fDIx at h2
    cases a with
    | ref n =>
      cases ek : keyI y' with
      | none => rw [ek] at h2; exact h2.elim
      | some k =>
        rw [ek] at h2
        have h2 : PR C (RV C) (match S2.get n with | some (.dct kvs) => (match valI kvs k with | some v => .ok v S2 | none => .no) | _ => .no) ρ2 S2 H2 Q (fun c d H' => W c d σ H') := h2
        cases g : S2.get n with
        | none => rw [g] at h2; exact h2.elim
        | some ob =>
          cases ob with
          | lst xs => rw [g] at h2; exact h2.elim
          | dct kvs =>
            rw [g] at h2
            have h2 : PR C (RV C) (match valI kvs k with | some v => .ok v S2 | none => .no) ρ2 S2 H2 Q (fun c d H' => W c d σ H') := h2
            obtain ⟨b, ws, hb, eb, hw, f1, f2⟩ := dct_at r2 x2 g
            obtain ⟨v1, v2⟩ := valI_rel k kvs ws f1 f2
            cases ev : valI kvs k with
            | none => rw [ev] at h2; exact h2.elim
            | some v =>
              rw [ev] at h2
              obtain ⟨u, eu, hu⟩ := v1 v ev
              exact ⟨b, u, eb, .inl ⟨ws, k, .inl hw, keyI_rv ek y2, eu.symm⟩, h2.now r2 hu⟩
    | _ => exact h2.elim
/-! ### d[k] = v -/
def fDPut (a y v : IV) (S : Sto) : Option Sto := match a, keyI y with
  | .ref n, some k => (match S.get n with
    | some (.dct kvs) => bif Nat.blt kvs.length 16777216 then some (S.put n (.dct (putI kvs k v))) else none
    | _ => none)
  | _, _ => none
def mDPut (md mk m : ME) : MS := fun E S => (m E S).to E fun v S1 => (md E S1).to E fun a S2 => (mk E S2).to E fun y S3 => match fDPut a y v S3 with
  | some S4 => .nx E S4
  | none => .no
theorem qs_dput {o i value : Expr} {mo mi m : ME} {pos pos' : Pos} (hu : X.A.units + 1 < cLine) (ho : PE X o (tI C mo W)) (hi : PE X i (tI C mi W)) (hv : PE X value (tI C m W)) (hs : swapsWith value (some (.Subscript o i pos')) pos.line X.env = pure false := by rfl) :
    PS X (.Assign [.Subscript o i pos'] value pos) (tS C (mDPut mo mi m) W) :=
  ps_mono (ps_dput hu ho hi hv hs) fun D σ H h => by
    obtain ⟨ρ, E, S, q, r, h⟩ := h
    refine ⟨ρ, E, S, q, r, PR.mono (PF.to (rel := RV C) q r h) (fun v H1 ⟨ρ1, v', S1, e1, r1, v1, h1⟩ => ?_) fun _ _ _ z => z⟩
    refine ⟨ρ1, E, S1, q.ext e1 r, r1, PR.mono (PF.to (rel := RV C) (q.ext e1 r) r1 h1) (fun x H2 ⟨ρ2, a, S2, e2, r2, x2, h2⟩ => ?_) fun _ _ _ z => z⟩
    have q2 := (q.ext e1 r).ext e2 r1
    refine ⟨ρ2, E, S2, q2, r2, PR.mono (PF.to (rel := RV C) q2 r2 h2) (fun y H3 ⟨ρ3, y', S3, e3, r3, y3, h3⟩ => ?_) fun _ _ _ z => z⟩
    have x3 := x2.ext e3 r2
    have v3 := (v1.ext e2 r1).ext e3 r2
    cases e4 : fDPut a y' v' S3 with
    | none => rw [e4] at h3; exact h3.elim
    | some S4 =>
      rw [e4] at h3
      unfold fDPut at e4
      cases a with
      | ref n =>
        cases ek : keyI y' with
        | none => rw [ek] at e4; cases e4
        | some k =>
          rw [ek] at e4
          have e4 : (match S3.get n with | some (.dct kvs) => bif Nat.blt kvs.length 16777216 then some (S3.put n (.dct (putI kvs k v'))) else none | _ => none) = some S4 := e4
          cases g : S3.get n with
          | none => rw [g] at e4; cases e4
          | some ob =>
            cases ob with
            | lst xs => rw [g] at e4; cases e4
            | dct kvs =>
              rw [g] at e4
              cases z : Nat.blt kvs.length 16777216 with
              | false => simp only [z, cond_false] at e4; cases e4
              | true =>
                simp only [z, cond_true] at e4
                obtain rfl := Option.some.inj e4
                obtain ⟨b, ws, hb, eb, hw, f1, f2⟩ := dct_at r3 x3 g
                obtain ⟨p1, p2⟩ := putI_rel k v3 kvs ws f1 f2
                have hlen : ws.length = kvs.length := by have := congrArg List.length f1; simpa using this
                obtain ⟨e5, r5⟩ := put_cell (io := .dct (putI kvs k v')) (ho := .dK (putK ws k v)) r3 g hb hw rfl ⟨_, rfl, p1, p2⟩ rfl
                refine ⟨b, _, eb, .inl ⟨ws, k, hw, keyI_rv ek y3, ?_, rfl⟩, ?_⟩
                · rw [hlen]
                  have := Nat.ble_eq.mp z
                  exact this
                · exact h3 ρ3 _ σ e5 r5 ((q2.ext e3 r2).ext e5 r3)
      | _ => cases e4
theorem u1 {k : Nat} {A : Around} (hr : Room k A) : A.units + 1 < cLine := by have := hr.units; omega
/-! ### *= -/
def fMulI : MO := fun a b S => match a, b with
  | .int i, .int j => okI (mulFit i j) (i * j) S
  | _, _ => .no
theorem iop_mulW : OpR X (inplaceOp .Mult) (rI CMulW fun i j => .int (i * j)) := opI fun _ _ _ _ _ _ _ hc q => imul_int q hc.ok
theorem fMulI_ok : OpF C fMulI (rI CMulW fun i j => .int (i * j)) := by
  intro ρ S H a b x y Q W r ha hb h
  unfold fMulI at h
  split at h
  · obtain ⟨h1, h2⟩ := okI_pr r h
    exact ⟨_, _, rv_int.mp ha, rv_int.mp hb, Nat.ble_eq.mp h1, h2⟩
  · exact h.elim
end
end FX

set_option Elab.async false
set_option linter.all false
set_option maxRecDepth 100000
set_option maxHeartbeats 4000000
set_option autoImplicit false
/-! FX19: sorted of ints, sets of ints that are sorted or counted at once, list.extend -/
namespace FX
open PySem PySem.Spec PyProof.Rows L2
section
variable {P : Program} {w : World} {A : Around} {E : Value → Shared → Prop} {s : Shared}
/-- a set that is just made -/
abbrev setNew (w : World) : Obj := { cls := .type "set", dict := none, data := .set #[] 0 (.fresh 0 0 (!w.params.followText "set-order")) }
/-- set(l), l a list of ints: its members -/
theorem set_of_list {l : Addr} {items : Array Value} (ns : List Int) {Q : Value → Shared → Prop} (hh : A.handled = none) (hl : s.heap.IsList l items) (hit : PyProof.Rows.IntsAre items.toList ns) (hb : ns.length + 1 < scanBound)
    (h : ∀ (h' : Heap) (tk c : Nat), SetR w h' s.heap.objs.size (fun j => decide (j ∈ ns)) c → (∀ b o, s.heap.get? b = some o → h'.get? b = some o) → Q (.ref s.heap.objs.size) { s with heap := h', toks := tk }) :
    wpAny (model P w) A (call (.type "set") [.ref l]) Q E s := by
  have hisz : items.size = ns.length := by have q := PyProof.Rows.IntsAre.length hit; rwa [Array.length_toList] at q
  obtain ⟨mc, mt, hmro⟩ := F.called_set.mro
  have hmade := F.called_set.made
  have hsub := F.called_set.sub
  refine wpAny_call (codeAny_of_tree ?_)
  show wpAny _ _ (callAny (.type "set") _) _ _ _
  refine wpAny_pure ⟨Code.quiet_builtin _ (by decide +kernel), codeAny_builtin F.entry_type_call ?_⟩
  rw [Around.under_plain (weight_type_call_type "set" [.ref l] []) rfl]
  have h1 := F.called_set.notType
  have h2 := F.called_set.canCreate
  have hct := F.typeCall_set_1 (.ref l)
  repeat (any_goals (first | assumption | wp_step))
  refine codeAny_mono (code_set_led1 (.ref l) (E := E) (Q₁ := fun obj s₁ => obj = .ref s.heap.objs.size ∧ s₁ = { s with heap := s.heap.push (setNew w) }) ⟨rfl, rfl⟩) fun r s₁ hr => ?_
  match r, hr with
  | .error e, hr => exact hr
  | .ok (.ret obj), hr =>
    obtain ⟨rfl, rfl⟩ := hr
    have hS : (s.heap.push (setNew w)).get? s.heap.objs.size = some (setNew w) := Heap.get?_push_size _ rfl
    have hT : Shared.TypeIs { s with heap := s.heap.push (setNew w) } (.ref s.heap.objs.size) "set" := ⟨_, hS, rfl⟩
    have hli := F.called_set.init.lookup
    have hbi := F.called_set.init.bind (.ref s.heap.objs.size)
    repeat (any_goals (first | assumption | wp_step))
    refine codeAny_mono (codeAny_call_builtin (R := wants (fun r s₂ => r = .none ∧ ∃ h' tk c, s₂ = { s with heap := h', toks := tk } ∧ SetR w h' s.heap.objs.size (fun j => decide (j ∈ ns)) c ∧
      (∀ b o, s.heap.get? b = some o → h'.get? b = some o)) E) F.called_set.init.plain F.entry_set_init (check_set_init_1 hT ?_)) fun r₂ s₂ hr₂ => ?_
    · obtain ⟨ol, hol, hcl, nl, hdl⟩ := hl
      obtain ⟨ocls, odict, odata, oslots⟩ := ol
      simp only at hcl hdl
      subst hcl; subst hdl
      have hol' : (s.heap.push (setNew w)).get? l = some { cls := .type "list", dict := odict, data := .seq items nl, slots := oslots } := Heap.get?_push_of_some _ hol
      have hsls := F.sub_list_set
      have hslf := F.sub_list_frozenset
      have hne : (Value.type "list" == Value.type "dict") = false := by decide
      have hl1 : (s.heap.push (setNew w)).IsList l items := ⟨_, hol', rfl, nl, rfl⟩
      unfold Builtin.«set.__init__» noKeywords Builtin.Frozenset.updateFrom
      generalize hPI : pyIter = PI
      wp_walk
      subst hPI
      refine wpAny_pyIter_list hl1 ?_
      refine wpAny_bind (wpAny_runValue ?_)
      have hlS : l < s.heap.objs.size := Heap.lt_size hol
      have hh3 : A.in1.in1.in1.handled = none := by simp [hh]
      have hz : (s.heap.push (setNew w)).objs.size = s.heap.objs.size + 1 := Heap.size_push ..
      have hneI : l ≠ (s.heap.push (setNew w)).objs.size := by rw [hz]; exact Nat.ne_of_lt (Nat.lt_succ_of_lt hlS)
      have hSf : s.heap.objs.size ∉ [(s.heap.push (setNew w)).objs.size, l] := by
        rw [hz]; simp only [List.mem_cons, List.not_mem_nil, or_false, not_or]
        exact ⟨Nat.ne_of_lt (Nat.lt_succ_self _), Nat.ne_of_gt hlS⟩
      have hval : ∀ (i : Nat) (v : Value), items[i]? = some v → ∃ k t, ns[i]? = some k ∧ v = .int k t := fun i v hv => by
        have hi : i < ns.length := by rw [← hisz]; exact (Array.getElem?_eq_some_iff.mp hv).1
        obtain ⟨t, e⟩ := PyProof.Rows.IntsAre.int_at hit i v (by rw [Array.getElem?_toList]; exact hv)
        exact ⟨ns[i], t, List.getElem?_eq_getElem hi, by rw [e, List.getD_eq_getElem?_getD, List.getElem?_eq_getElem hi]; rfl⟩
      refine set_update_ints ((Walks.list hh3 _ l hneI items).toS) s.heap.objs.size hSf ns hisz hb hval (items.size - 0) 0 _ (by omega) (Nat.zero_le _)
        ⟨⟨_, Heap.get?_push_size _ rfl, rfl, rfl⟩, hl1.push _⟩ ⟨0, Nat.le_refl 0, setR_new_at (Heap.get?_push_of_some _ hS)⟩ fun s' c' hm hc' hS' => ?_
      obtain ⟨h', g2, d', tk', os'⟩ := s'
      have eg : g2 = s.gens := hm.gens
      have ed : d' = s.drawn := hm.drawn
      have eo : os' = s.os := hm.os
      subst eg; subst ed; subst eo
      show wpAny _ _ _ _ _ _
      refine wpAny_pure ?_
      show wpAny _ _ (ret Value.none) _ _ _
      refine wpAny_pure ⟨rfl, h', tk', c', rfl, hS', fun b o e => ?_⟩
      have hb0 : b < s.heap.objs.size := Heap.lt_size e
      exact hm.heap b o (by rw [hz]; simp only [List.mem_cons, List.not_mem_nil, or_false, not_or]; exact ⟨Nat.ne_of_lt hb0, Nat.ne_of_lt (Nat.lt_succ_of_lt hb0)⟩) (Heap.get?_push_of_some _ (Heap.get?_push_of_some _ e))
    · match r₂, hr₂ with
      | .error e, hr₂ => exact hr₂
      | .ok (.ret r), hr₂ =>
        obtain ⟨rfl, h', tk, c', rfl, hS', hk'⟩ := hr₂
        repeat (any_goals (first | assumption | wp_step))
        exact h _ _ _ hS' hk'
      | .ok .next, hr₂ => exact hr₂.elim
      | .ok .brk, hr₂ => exact hr₂.elim
      | .ok .cont, hr₂ => exact hr₂.elim
end
end FX

set_option Elab.async false
set_option linter.all false
set_option maxRecDepth 100000
set_option maxHeartbeats 4000000
set_option autoImplicit false
/-! FX20: rules of sorted(ints), sorted(set(ints)), len(set(ints)), list.extend -/
namespace FX
open PySem PySem.Spec PyProof.Rows L2
/-- an int put into a sorted row -/
def insI (x : Int) : List Int → List Int
  | [] => [x]
  | y :: r => if x ≤ y then x :: y :: r else y :: insI x r
def sortI : List Int → List Int
  | [] => []
  | x :: r => insI x (sortI r)
theorem insI_perm (x : Int) : ∀ l, (insI x l).Perm (x :: l)
  | [] => .refl _
  | y :: r => by
    unfold insI
    split
    · exact .refl _
    · exact ((insI_perm x r).cons y).trans (.swap x y r)
theorem sortI_perm : ∀ l, (sortI l).Perm l
  | [] => .refl _
  | x :: r => (insI_perm x _).trans ((sortI_perm r).cons x)
theorem insI_sorted (x : Int) : ∀ l : List Int, l.Pairwise (· ≤ ·) → (insI x l).Pairwise (· ≤ ·)
  | [], _ => by simp [insI]
  | y :: r, h => by
    obtain ⟨h1, h2⟩ := List.pairwise_cons.mp h
    unfold insI
    split
    · rename_i hx
      refine List.pairwise_cons.mpr ⟨fun z hz => ?_, h⟩
      rcases List.mem_cons.mp hz with rfl | hz
      · exact hx
      · exact Int.le_trans hx (h1 z hz)
    · rename_i hx
      refine List.pairwise_cons.mpr ⟨fun z hz => ?_, insI_sorted x r h2⟩
      rcases List.mem_cons.mp ((insI_perm x r).mem_iff.mp hz) with rfl | hz
      · omega
      · exact h1 z hz
theorem sortI_sorted : ∀ l, (sortI l).Pairwise (· ≤ ·)
  | [] => .nil
  | x :: r => insI_sorted x _ (sortI_sorted r)
/-- two sorted rows of the same ints are one -/
theorem sorted_uniq : ∀ {l m : List Int}, l.Perm m → l.Pairwise (· ≤ ·) → m.Pairwise (· ≤ ·) → l = m
  | [], m, p, _, _ => by rw [List.Perm.nil_eq p]
  | x :: l, m, p, h, h' => by
    cases m with
    | nil => exact absurd p.length_eq (by simp)
    | cons y m =>
      obtain ⟨h1, h2⟩ := List.pairwise_cons.mp h
      obtain ⟨h3, h4⟩ := List.pairwise_cons.mp h'
      have e : x = y := by
        have a : y ≤ x := by
          rcases List.mem_cons.mp (p.mem_iff.mp (List.mem_cons_self (a := x))) with z | z
          · omega
          · exact h3 x z
        have b : x ≤ y := by
          rcases List.mem_cons.mp (p.mem_iff.mpr (List.mem_cons_self (a := y))) with z | z
          · omega
          · exact h1 y z
        omega
      subst e
      rw [sorted_uniq ((List.perm_cons x).mp p) h2 h4]
/-- the members, each once, in order -/
def dedI : List Int → List Int
  | [] => []
  | [x] => [x]
  | x :: y :: r => if x = y then dedI (y :: r) else x :: dedI (y :: r)
def setI (l : List Int) : List Int := dedI (sortI l)
theorem dedI_mem : ∀ (l : List Int) (k : Int), k ∈ dedI l ↔ k ∈ l
  | [], k => Iff.rfl
  | [x], k => Iff.rfl
  | x :: y :: r, k => by
    unfold dedI
    split
    · rename_i e
      rw [dedI_mem (y :: r) k, e]
      simp
    · rw [List.mem_cons, dedI_mem (y :: r) k, List.mem_cons, List.mem_cons, List.mem_cons]
theorem dedI_sorted : ∀ l : List Int, l.Pairwise (· ≤ ·) → (dedI l).Pairwise (· < ·)
  | [], _ => .nil
  | [x], _ => by simp [dedI]
  | x :: y :: r, h => by
    obtain ⟨h1, h2⟩ := List.pairwise_cons.mp h
    unfold dedI
    split
    · exact dedI_sorted (y :: r) h2
    · rename_i e
      refine List.pairwise_cons.mpr ⟨fun z hz => ?_, dedI_sorted (y :: r) h2⟩
      have hz := (dedI_mem _ _).mp hz
      have hxy := h1 y (List.mem_cons_self)
      rcases List.mem_cons.mp hz with rfl | hz
      · omega
      · have := (List.pairwise_cons.mp h2).1 z hz
        omega
theorem setI_mem (l : List Int) (k : Int) : k ∈ setI l ↔ k ∈ l := by rw [setI, dedI_mem, (sortI_perm l).mem_iff]
theorem setI_sorted (l : List Int) : (setI l).Pairwise (· < ·) := dedI_sorted _ (sortI_sorted l)
theorem lt_uniq {l m : List Int} (hm : ∀ k, k ∈ l ↔ k ∈ m) (h : l.Pairwise (· < ·)) (h' : m.Pairwise (· < ·)) : l = m := by
  refine sorted_uniq ?_ (h.imp fun h => Int.le_of_lt h) (h'.imp fun h => Int.le_of_lt h)
  exact (List.perm_ext_iff_of_nodup (h.imp fun h => Int.ne_of_lt h) (h'.imp fun h => Int.ne_of_lt h)).mpr hm
section
variable {X : Cx} {C : Wd} {W : WX}
theorem rvs_vints {ρ : Map} {H : Hp} (ns : List Int) : RVs C ρ H (ns.map IV.int) (ns.map V.int) := by
  induction ns with
  | nil => exact rvs_nil.mpr rfl
  | cons n r ih => exact rvs_cons.mpr ⟨_, _, rfl, rv_int.mpr rfl, ih⟩
/-! ### sorted(xs), ints -/
def bSorted : MF := fun as S => match as with
  | [a] => (match cellInts S a with
    | some ns => .ok (.ref S.top) (S.new (.lst ((sortI ns).map IV.int)))
    | none => .no)
  | _ => .no
theorem bSorted_ok : CallF C bSorted (rSortedI C.K) := by
  intro ρ S H as xs Q W r h q
  unfold bSorted at q
  split at q
  · obtain ⟨x, rfl, h1⟩ := rvs_one h
    split at q
    · rename_i ns e
      obtain ⟨a, rfl, t⟩ := cellInts_ok r e h1
      refine ⟨a, ns, rfl, t, fun ns' p hp hs hn => ?_⟩
      obtain rfl : ns' = sortI ns := sorted_uniq (hp.trans (sortI_perm ns).symm) hs (sortI_sorted ns)
      obtain ⟨g1, g2, g3⟩ := new_lst (C := C) (ρ := ρ) (S := S) (H := H) r hn (rvs_vints (sortI ns))
      exact q _ _ _ g1 g2 g3
    · exact q.elim
  · exact q.elim
theorem qsorted {e : Expr} {ms : MA} {p pos : Pos} (hK : X.K = C.K) (hm : X.mg "sorted" = none) (ha : PA X [e] (tA C ms W)) (hg : Gl X "sorted" := by rfl) (he : starEach [e] X.env = (false, eval e X.env) :: starEach [] X.env := by rfl) : PE X (.Call (.Name "sorted" p) [e] [] pos) (tI C (mCall bSorted ms) W) :=
  qe_callB (r := rSortedI X.K) cr_sortedI (by rw [hK]; exact bSorted_ok) hg hm (by decide +kernel) ha (by decide) (by decide) he rfl
/-! ### sorted(set(xs)), len(set(xs)) -/
def fSortSet (a : IV) (S : Sto) : R IV := match cellInts S a with
  | some ns => bif Nat.ble (setI ns).length 60 then (bif Nat.ble ns.length 1000 then .ok (.ref S.top) (S.new (.lst ((setI ns).map IV.int))) else .no) else .no
  | none => .no
def fLenSet (a : IV) (S : Sto) : R IV := match cellInts S a with
  | some ns => bif Nat.ble ns.length 1000 then .ok (.int (setI ns).length) S else .no
  | none => .no
end
end FX
namespace FX
open PySem PySem.Spec PyProof.Rows L2
section
variable {X : Cx} {C : Wd} {W : WX}
theorem setR_len {w : World} {h : Heap} {a : Addr} {ns : List Int} {c : Nat} (R : SetR w h a (fun j => decide (j ∈ ns)) c) : c = (setI ns).length := by
  obtain ⟨o, es, ep, t, ho, hex, hd, g, nd, hm, hb, hf, hn, hr, hl⟩ := R
  have h1 : (es.toList.map keyOf).Perm (setI ns) := (List.perm_ext_iff_of_nodup nd ((setI_sorted ns).imp fun h => Int.ne_of_lt h)).mpr fun k => by
    rw [← hm k, setI_mem, decide_eq_true_eq]
  rw [← h1.length_eq, ← hn]
  simp
def tSortSet (K : PySem.W.Frag) (ta : TE) : TE := fun σ H Q => ta σ H fun x H1 => ∃ (l : Addr) (ns : List Int), x = V.ref l ∧ SqL K H1 l (ns.map V.int) ∧ ns.length ≤ 1000 ∧ (setI ns).length ≤ 60 ∧ ∀ p, H1 p = none → Q (.ref p) (upd H1 p (.lst ((setI ns).map V.int)))
theorem pe_sortSet {a : Expr} {ta : TE} {p p2 q pos : Pos} (hc : X.calm = true) (hg : Gl X "sorted") (hm : X.mg "sorted" = none) (hg2 : Gl X "set") (hm2 : X.mg "set" = none) (ha : PE X a ta)
    (na : starEach [a] X.env = (false, eval a X.env) :: starEach [] X.env := by rfl) (na2 : starEach [.Call (.Name "set" p2) [a] [] q] X.env = (false, eval (.Call (.Name "set" p2) [a] [] q) X.env) :: starEach [] X.env := by rfl) :
    PE X (.Call (.Name "sorted" p) [.Call (.Name "set" p2) [a] [] q] [] pos) (tSortSet X.K ta) := by
  refine ⟨fun pins s σ H Q I h => ?_⟩
  refine Call_ (ld_blt I hg hm (by decide +kernel : bootBuiltins "sorted" = some (.builtin "sorted")) ?_)
  refine PyProof.Rows.callWith_builtin1 (PyProof.Rows.args_cons ?_ na2) na2 rfl
  refine Call_ (ld_blt I hg2 hm2 PyProof.Rows.boot_set ?_)
  refine PyProof.Rows.callWith_type1 (PyProof.Rows.args_cons (thn (ha.run pins s σ H _ I h) fun v s1 ⟨x, H1, I1, r1, q1⟩ => PyProof.Rows.args_nil ?_) na) na rfl
  obtain ⟨l, ns, rfl, hq, h1, h2, q1⟩ := q1
  cases r1
  obtain ⟨its, r, pl, hz⟩ := I1.list hq
  refine set_of_list ns (I1.ok.hd hc) pl.isList (by simpa using r.ints) (by unfold scanBound; omega) fun h' tk c hS hk => ?_
  have hlen := setR_len hS
  refine PyProof.Rows.args_nil ?_
  have I2 : Inv X pins σ H1 { s1 with heap := h', toks := tk } := I1.kept fun b o e => hk b o e
  refine sorted_set (s := { s1 with heap := h', toks := tk }) hS (I1.ok.hd hc) (by omega) fun s' p out c ns' k g o hp hg hi hs hm hl => ?_
  obtain rfl : ns' = setI ns := lt_uniq (fun k => by rw [hm, decide_eq_true_eq, setI_mem]) hs (setI_sorted ns)
  have hz2 : ((setI ns).map V.int).length ≤ sizeLine := by rw [List.length_map, sizeLine_eq]; omega
  have hn : H1 p = none := I2.hok.fresh hp
  have J : Inv X pins σ (upd H1 p (.lst ((setI ns).map V.int))) { s1 with heap := s'.heap, gens := s'.gens, drawn := s'.drawn, toks := s'.toks } :=
    Inv.call (s := { s1 with heap := h', toks := tk }) I2 (ch := []) (Un.laid k hp hn) (I2.hok.laid k hp ⟨hz2, out.toList, c, vals_of_ints hi, hg⟩) (by rw [g]; exact I2.bare) (fun _ z => nomatch z)
  have e : s' = { s1 with heap := s'.heap, gens := s'.gens, drawn := s'.drawn, toks := s'.toks } := by
    cases s'
    cases s1
    cases o
    rfl
  rw [e]
  exact ⟨.ref p, _, J, rfl, q1 p hn⟩
theorem qe_sortSet {a : Expr} {m : ME} {p p2 q pos : Pos} (hK : X.K = C.K) (hc : X.calm = true) (hm : X.mg "sorted" = none) (hm2 : X.mg "set" = none) (ha : PE X a (tI C m W)) (hg : Gl X "sorted" := by rfl) (hg2 : Gl X "set" := by rfl)
    (na : starEach [a] X.env = (false, eval a X.env) :: starEach [] X.env := by rfl) (na2 : starEach [.Call (.Name "set" p2) [a] [] q] X.env = (false, eval (.Call (.Name "set" p2) [a] [] q) X.env) :: starEach [] X.env := by rfl) :
    PE X (.Call (.Name "sorted" p) [.Call (.Name "set" p2) [a] [] q] [] pos) (tI C (mU fSortSet m) W) :=
  pe_mono (pe_sortSet hc hg hm hg2 hm2 ha na na2) fun σ H Q h => by
    obtain ⟨ρ, E, S, q, r0, h⟩ := h
    refine ⟨ρ, E, S, q, r0, PR.mono (PR.bind (rel := RV C) h) (fun x H1 ⟨ρ1, a, S1, e1, r1, x1, h1⟩ => ?_) fun _ _ _ z => z⟩
    unfold fSortSet at h1
    cases e : cellInts S1 a with
    | none => rw [e] at h1; exact h1.elim
    | some ns =>
      rw [e] at h1
      obtain ⟨l, rfl, t⟩ := cellInts_ok r1 e x1
      have h1 : PR C (RV C) (bif Nat.ble (setI ns).length 60 then (bif Nat.ble ns.length 1000 then .ok (.ref S1.top) (S1.new (.lst ((setI ns).map IV.int))) else .no) else .no) ρ1 S1 H1 Q (fun c d H' => W c d σ H') := h1
      cases z1 : Nat.ble (setI ns).length 60 with
      | false => rw [z1] at h1; exact h1.elim
      | true =>
        cases z2 : Nat.ble ns.length 1000 with
        | false => rw [z1, z2] at h1; exact h1.elim
        | true =>
          rw [z1, z2] at h1
          refine ⟨l, ns, rfl, by rw [hK]; exact t, Nat.ble_eq.mp z2, Nat.ble_eq.mp z1, fun p hn => ?_⟩
          obtain ⟨g1, g2, g3⟩ := new_lst (C := C) (ρ := ρ1) (S := S1) (H := H1) r1 hn (rvs_vints (setI ns))
          exact h1 _ _ _ g1 g2 g3
def tLenSet (K : PySem.W.Frag) (ta : TE) : TE := fun σ H Q => ta σ H fun x H1 => ∃ (l : Addr) (ns : List Int), x = V.ref l ∧ SqL K H1 l (ns.map V.int) ∧ ns.length ≤ 1000 ∧ Q (.int (setI ns).length) H1
theorem pe_lenSet {a : Expr} {ta : TE} {p p2 q pos : Pos} (hc : X.calm = true) (hg : Gl X "len") (hm : X.mg "len" = none) (hg2 : Gl X "set") (hm2 : X.mg "set" = none) (ha : PE X a ta)
    (na : starEach [a] X.env = (false, eval a X.env) :: starEach [] X.env := by rfl) (na2 : starEach [.Call (.Name "set" p2) [a] [] q] X.env = (false, eval (.Call (.Name "set" p2) [a] [] q) X.env) :: starEach [] X.env := by rfl) :
    PE X (.Call (.Name "len" p) [.Call (.Name "set" p2) [a] [] q] [] pos) (tLenSet X.K ta) := by
  refine ⟨fun pins s σ H Q I h => ?_⟩
  refine Call_ (ld_blt I hg hm PySem.boot_len ?_)
  refine PyProof.Rows.callWith_builtin1 (PyProof.Rows.args_cons ?_ na2) na2 rfl
  refine Call_ (ld_blt I hg2 hm2 PyProof.Rows.boot_set ?_)
  refine PyProof.Rows.callWith_type1 (PyProof.Rows.args_cons (thn (ha.run pins s σ H _ I h) fun v s1 ⟨x, H1, I1, r1, q1⟩ => PyProof.Rows.args_nil ?_) na) na rfl
  obtain ⟨l, ns, rfl, hq, h1, q1⟩ := q1
  cases r1
  obtain ⟨its, r, pl, hz⟩ := I1.list hq
  refine set_of_list ns (I1.ok.hd hc) pl.isList (by simpa using r.ints) (by unfold scanBound; omega) fun h' tk c hS hk => ?_
  have hlen := setR_len hS
  refine PyProof.Rows.args_nil ?_
  have I2 : Inv X pins σ H1 { s1 with heap := h', toks := tk } := I1.kept fun b o e => hk b o e
  obtain ⟨o, es, ep, t, ho, hex, hd, _, nd, hmm, hb, hf, hn, _⟩ := hS
  exact call_len_set ho hex hd hf (by unfold scanBound at hb; omega) ⟨.int (setI ns).length, H1, I2.tok _, ⟨_, by rw [hn, hlen]⟩, q1⟩
theorem qe_lenSet {a : Expr} {m : ME} {p p2 q pos : Pos} (hK : X.K = C.K) (hc : X.calm = true) (hm : X.mg "len" = none) (hm2 : X.mg "set" = none) (ha : PE X a (tI C m W)) (hg : Gl X "len" := by rfl) (hg2 : Gl X "set" := by rfl)
    (na : starEach [a] X.env = (false, eval a X.env) :: starEach [] X.env := by rfl) (na2 : starEach [.Call (.Name "set" p2) [a] [] q] X.env = (false, eval (.Call (.Name "set" p2) [a] [] q) X.env) :: starEach [] X.env := by rfl) :
    PE X (.Call (.Name "len" p) [.Call (.Name "set" p2) [a] [] q] [] pos) (tI C (mU fLenSet m) W) :=
  pe_mono (pe_lenSet hc hg hm hg2 hm2 ha na na2) fun σ H Q h => by
    obtain ⟨ρ, E, S, q, r0, h⟩ := h
    refine ⟨ρ, E, S, q, r0, PR.mono (PR.bind (rel := RV C) h) (fun x H1 ⟨ρ1, a, S1, e1, r1, x1, h1⟩ => ?_) fun _ _ _ z => z⟩
    unfold fLenSet at h1
    cases e : cellInts S1 a with
    | none => rw [e] at h1; exact h1.elim
    | some ns =>
      rw [e] at h1
      obtain ⟨l, rfl, t⟩ := cellInts_ok r1 e x1
      have h1 : PR C (RV C) (bif Nat.ble ns.length 1000 then .ok (.int (setI ns).length) S1 else .no) ρ1 S1 H1 Q (fun c d H' => W c d σ H') := h1
      cases z2 : Nat.ble ns.length 1000 with
      | false => rw [z2] at h1; exact h1.elim
      | true =>
        rw [z2] at h1
        exact ⟨l, ns, rfl, by rw [hK]; exact t, Nat.ble_eq.mp z2, h1.now r1 (rv_int.mpr rfl)⟩
/-! ### xs.extend(ys) -/
def fExtend : IV → List IV → Sto → R IV := fun a as S => match a, as with
  | .ref n, [.ref m] => (match S.get n, S.get m with
    | some (.lst xs), some (.lst ys) => bif Nat.ble (xs.length + ys.length) 16777216 then .ok .non (S.put n (.lst (xs ++ ys))) else .no
    | _, _ => .no)
  | _, _ => .no
theorem fExtend_ok : MetF C fExtend rExtend := by
  intro ρ S H a as x xs Q W r ha has h
  unfold fExtend at h
  split at h
  · rename_i n m
    obtain ⟨y, rfl, hy⟩ := rvs_one has
    split at h
    · rename_i us ws g g'
      obtain ⟨b, vs, h1, rfl, h3, h4⟩ := cell_at r ha g
      obtain ⟨b', vs', h1', rfl, h3', h4'⟩ := cell_at r hy g'
      cases z : Nat.ble (us.length + ws.length) 16777216 with
      | false => rw [z] at h; exact h.elim
      | true =>
        rw [z] at h
        obtain ⟨e1, r1⟩ := put_lst r g h1 h3 (h4.append h4')
        refine ⟨b, b', vs, vs', rfl, rfl, h3, h3', ?_, h ρ _ _ e1 r1 (rv_non.mpr rfl)⟩
        rw [h4.length, h4'.length, sizeLine_eq]
        exact Nat.le_of_ble_eq_true z
    · exact h.elim
  · exact h.elim
theorem qextend {o e : Expr} {es : List Expr} {m : ME} {ms : MA} {pos apos : Pos} (hK : X.K = C.K) (ho : PE X o (tI C m W)) (ha : PA X (e :: es) (tA C ms W))
    (k : ∀ {t : TE} {ta : TA}, PE X o t → PA X (e :: es) ta → PE X (.Call (.Attribute o "extend" apos) (e :: es) [] pos) (tBM X.K "list" rExtend t ta)) : PE X (.Call (.Attribute o "extend" apos) (e :: es) [] pos) (tI C (mMet fExtend m ms) W) :=
  qe_met hK PySem.F.slot_list_extend PySem.F.type_list_extend mt_extend fExtend_ok ho ha k
end
end FX

set_option Elab.async false
set_option linter.all false
set_option maxRecDepth 100000
set_option maxHeartbeats 2000000
set_option autoImplicit false
/-! FX21: next(e for x in it if ..), d): the generator expression's block as a context of its own. -/
namespace FX
open PySem PySem.Spec PyProof.Rows L2
/-- the block's context, entered at s behind the making of its code object -/
def gxCx (X : Cx) (A : Around) (s : Shared) (H : Hp) (scope : Scope) (code : Value) (fp : List Addr) : Cx where
  prog := X.prog
  w := X.w
  K := X.K
  mg := X.mg
  base := X.base
  A := A
  N := X.N
  s_0 := s
  H_0 := H
  env := genEnv scope (cloFrom X.env.cells scope.names []) s.heap.objs.size code builtinsNs X.env
  outer := X.stack
  stack := genEnv scope (cloFrom X.env.cells scope.names []) s.heap.objs.size code builtinsNs X.env :: X.stack
  ex := fp
  fn := fun _ => false
  calm := true
  pn := []
  xe := fun _ _ => False
/-- the block's names: own: its own names and their slots -/
structure GxS (N : List Str) (sc scope : Scope) (own : List (Str × Nat)) : Prop where
  kind : scope.kind = .function
  co : scope.isCoroutine = false
  cell : ∀ y ∈ scope.names, y.2 ≠ .cell
  dot : scope.names.lookup (".0" : Str) = some NameKind.local
  loc : ∀ y ∈ scope.names, y.2 = .local → (y.1 = ".0" ∧ (".0" : Str) ∉ N) ∨ ∃ i, (y.1, i) ∈ own ∧ N[i]? = some y.1
  free : ∀ y ∈ scope.names, y.2 = .free → sc.names.lookup y.1 = some .cell ∨ sc.names.lookup y.1 = some .free
def gxSB (N : List Str) (sc scope : Scope) (own : List (Str × Nat)) : Bool :=
  decide (scope.kind = .function) && (!scope.isCoroutine && (decide (scope.names.lookup (".0" : Str) = some NameKind.local) && scope.names.all fun y =>
    !decide (y.2 = .cell) && ((!decide (y.2 = .local) || (decide (y.1 = ".0") && !decide ((".0" : Str) ∈ N)) || own.any fun o => decide (o.1 = y.1) && decide (N[o.2]? = some y.1)) &&
      (!decide (y.2 = .free) || decide (sc.names.lookup y.1 = some .cell) || decide (sc.names.lookup y.1 = some .free)))))
theorem gxS_by {N : List Str} {sc scope : Scope} {own : List (Str × Nat)} (h : gxSB N sc scope own = true) : GxS N sc scope own := by
  unfold gxSB at h
  simp only [Bool.and_eq_true, Bool.or_eq_true, Bool.not_eq_true', decide_eq_true_eq, decide_eq_false_iff_not, List.all_eq_true, List.any_eq_true] at h
  obtain ⟨h1, h2, h3, h4⟩ := h
  refine ⟨h1, h2, fun y hy => (h4 y hy).1, h3, fun y hy e => ?_, fun y hy e => ?_⟩
  · rcases (h4 y hy).2.1 with (z | z) | ⟨o, ho, z1, z2⟩
    · exact absurd e z
    · exact .inl z
    · refine .inr ⟨o.2, ?_, z2⟩
      rw [← z1]
      exact ho
  · rcases (h4 y hy).2.2 with (z | z) | z
    · exact absurd e z
    · exact .inl z
    · exact .inr z
section
variable {X : Cx} {pins : List (Addr × Obj)} {σ : L2.St} {H : Hp} {s : Shared}
theorem GxS.has {scope : Scope} {own : List (Str × Nat)} (L : GxS X.N X.env.scope scope own) (ok : X.Ok) : ∀ y ∈ scope.names, y.2 = .free → ∃ c, X.env.cells.lookup y.1 = some c := fun y hy e => by
  rcases L.free y hy e with k | k
  · exact ok.has _ (.inl k)
  · exact ok.has _ (.inr k)
/-- the block begins -/
theorem gx_start {A : Around} {scope : Scope} {own : List (Str × Nat)} {code : Value} {fp : List Addr} {h₁ : Heap} {g' : Array GenState} {tk : Nat} {m₁ : Str → Option Value} (I : Inv X pins σ H s) (hN : X.N.Nodup) (L : GxS X.N X.env.scope scope own) (hd : A.handled = none)
    (hA : A.frames = some (genEnv scope (cloFrom X.env.cells scope.names []) s.heap.objs.size code builtinsNs X.env :: X.stack)) (hf : ∀ b ∈ fp, FpOk X pins H b ∧ b < s.heap.objs.size)
    (hns : h₁.Ns s.heap.objs.size m₁) (kp : ∀ b o, s.heap.get? b = some o → h₁.get? b = some o) (hg : AllBare g') :
    Inv (gxCx X A s H scope code fp) [] (wipe σ (own.map (·.2))) H { s with heap := h₁, gens := g', toks := tk } := by
  have hfree := L.has I.ok
  have cm : ∀ {y c}, (cloFrom X.env.cells scope.names []).lookup y = some c → X.env.cells.lookup y = some c := fun {y c} e => by
    rcases cloFrom_mem (PySem.mem_of_lookup e) with hm | ⟨h1, h2⟩
    · cases hm
    · obtain ⟨c1, hc⟩ := hfree _ h1 rfl
      have hc : X.env.cells.lookup y = some c1 := hc
      have e2 : c = c1 := by
        rw [h2, hc] <;> rfl
      rw [e2]
      exact hc
  have look : ∀ {y}, scope.names.lookup y = some .free → ∃ c, (cloFrom X.env.cells scope.names []).lookup y = some c := fun {y} hl => by
    have hy : (y, NameKind.free) ∈ scope.names := PySem.mem_of_lookup hl
    exact mem_lookup (cloFrom_has (cells := X.env.cells) (acc := []) hy)
  have cellK : ∀ {c : Addr} {v : Option Value}, s.heap.IsCell c v → h₁.IsCell c v := fun {c v} ⟨o, ho, hd⟩ => ⟨_, kp _ _ ho, hd⟩
  have e0 := I.env0
  refine ⟨⟨e0.mod, L.kind, I.ok.glob, rfl, Nat.le_refl _, fun y z c e1 e2 => I.ok.inj y z c (cm e1) (cm e2), fun y hy => ?_, fun y c z _ => ?_, fun _ => hd, hA, .inr ⟨rfl, rfl⟩, fun b hb => ⟨Nat.ne_of_lt (hf b hb).2, fun x c e => (hf b hb).1.2.2.2.2.1 x c (cm e)⟩, e0.bs, e0.bsz,
      fun b o e hb => ?_, fun b hb z => ?_, e0.funs, e0.frf⟩,
    rfl, hg, Un.kept kp, ⟨_, hns, fun i y v e1 e2 e3 => ?_⟩, fun y c e => ?_, e0.hok.fresh (Nat.le_refl _), fun y c e => I.freeC y c (cm e), fun q hq => absurd (show q ∈ ([] : List (Addr × Obj)) ++ [] from hq) (by simp), e0.hok.kept kp, by rw [wipe_length]; exact I.len⟩
  · have hy : scope.names.lookup y = some .cell ∨ scope.names.lookup y = some .free := hy
    rcases hy with hy | hy
    · exact absurd rfl (L.cell _ (PySem.mem_of_lookup hy))
    · exact look hy
  · have z : false = true := z
    cases z
  · rcases (hf b hb).1.2.2.2.1 with z | z
    · exact I.ok.noex b o e z
    · exact absurd (Nat.lt_of_lt_of_le (Heap.lt_size e) (Nat.le_trans I.ok.bsz z)) (Nat.lt_irrefl _)
  · rcases List.mem_cons.mp (I.stkSub b z) with q | q
    · exact (hf b hb).1.2.1 q
    · exact (hf b hb).1.2.2.1 q
  · obtain ⟨e2, ni⟩ := wipe_some e2
    have e3 : Vis scope y := e3
    rcases e3 with k | k | k
    · rcases L.loc _ (PySem.mem_of_lookup k) rfl with ⟨z1, z2⟩ | ⟨j, z1, z2⟩
      · have z1 : y = ".0" := z1
        exact absurd (List.mem_of_getElem? e1) (by rw [z1]; exact z2)
      · have : i = j := nodup_ix hN e1 z2
        exact absurd (List.mem_map.mpr ⟨_, z1, rfl⟩) (by rw [← this]; exact ni)
    · exact absurd rfl (L.cell _ (PySem.mem_of_lookup k))
    · obtain ⟨m, hn, hl⟩ := I.loc
      have hvis : Vis X.env.scope y := (L.free _ (PySem.mem_of_lookup k) rfl).elim (fun k => .inr (.inl k)) (fun k => .inr (.inr k))
      obtain ⟨w', r, q⟩ := hl i y v e1 e2 hvis
      obtain ⟨c2, h2⟩ := look k
      refine ⟨w', r, .inr ⟨.inr k, c2, h2, ?_⟩⟩
      have c1 := cm h2
      rcases q with ⟨k', _⟩ | ⟨_, c3, e', z⟩
      · have k' : X.env.scope.names.lookup y = some .local := k'
        rcases L.free _ (PySem.mem_of_lookup k) rfl with k2 | k2 <;> rw [show X.env.scope.names.lookup y = _ from k2] at k' <;> cases k'
      · rw [c1] at e'
        cases e'
        exact cellK z
  · obtain ⟨w', z⟩ := I.cell y c (cm e)
    exact ⟨w', cellK z⟩
end
/-- the block's turns, up to the first item that is handed out -/
def NxTurns (J : It) (σ : L2.St) (vs : List Nat) (g : TG) (tt : TT) (te : TE) (Q : VK) (W : Nat → Nat → Hp → Prop) : Prop := ∀ i m H, W i m H →
  (J.stop i H ∧ Q .non H) ∨ (J.go i H ∧ ∃ Nx : Hp → Prop, (∀ H', Nx H' → ∃ m', m' < m ∧ W (i + 1) m' H') ∧ ∀ x H', J.yld i H x H' → g x (wipe σ vs) H' fun σ2 H2 => wipe σ2 vs = wipe σ vs ∧ tt σ2 H2 fun b H3 =>
    if b = true then te σ2 H3 Q else Nx H3)
section
variable {X : Cx} {pins : List (Addr × Obj)} {σ : L2.St} {H0 : Hp} {s0 : Shared}
abbrev gxE (elt tg iter : Expr) (ifs : List Expr) (scope : Scope) (pos : Pos) : Expr := .GeneratorExp elt [⟨tg, iter, ifs, 0⟩] scope pos
theorem gx_loop {A A1 : Around} {elt tg iter : Expr} {ifs : List Expr} {scope : Scope} {pos : Pos} {it : Addr} {fp : List Addr} {tn : Nat → Heap → Prop} {J : It} {code : Value} {vs : List Nat} {g : TG} {tt : TT} {te : TE} {Q : VK} {R : GenEnd} {Y : Protocol} {W : Nat → Nat → Hp → Prop}
    (hA1 : A1 = A.over (.compLoop (gxE elt tg iter ifs scope pos) 0 (.ref it) .none (gxCx X A1 s0 H0 scope code fp).env) []) (T : Turn X.prog X.w X.K tg J fp it tn) (hco : scope.isCoroutine = false)
    (pg : PG (gxCx X A1 s0 H0 scope code fp) tg g) (pt : PTs (gxCx X A1 s0 H0 scope code fp) ifs tt) (pe : PE (gxCx X A1 s0 H0 scope code fp) elt te) (turn : NxTurns J σ vs g tt te Q W)
    (hY : ∀ n s₀ y v s' σ' H' pl kap, Inv (gxCx X A1 s0 H0 scope code fp) pl σ' H' s' → RelV y v → Q y H' → Y n s₀ v s' kap)
    (hR : ∀ n s₀ s' σ' H', Inv (gxCx X A1 s0 H0 scope code fp) [] σ' H' s' → Q .non H' → R n s₀ (.ok .next) s') :
    ∀ (m i : Nat) (s₀ s1 : Shared) (H1 : Hp), Inv (gxCx X A1 s0 H0 scope code fp) [] (wipe σ vs) H1 s1 → tn i s1.heap → (∀ b ∈ fp, H1 b = none) → W i m H1 →
      Seg (model X.prog X.w) A R Y 1 s₀ (.compLoop (gxE elt tg iter ifs scope pos) 0 (.ref it) .none (gxCx X A1 s0 H0 scope code fp).env) ((model X.prog X.w).den (.compLoop (gxE elt tg iter ifs scope pos) 0 (.ref it) .none (gxCx X A1 s0 H0 scope code fp).env)) [] s1 := by
  have stat : ∀ {σ' : L2.St} {H' : Hp} {s' : Shared}, Inv (gxCx X A1 s0 H0 scope code fp) [] σ' H' s' → (∀ b ∈ fp, H' b = none) → ∀ b ∈ fp, FpOk (gxCx X A1 s0 H0 scope code fp) [] H' b := fun {σ' H' s'} I' hn b hb =>
    ⟨hn b hb, (I'.ok.exf b hb).1, I'.ok.exfs b hb, .inl hb, fun x c e => (I'.ok.exf b hb).2 x c e, fun p hp => absurd (show p ∈ ([] : List (Addr × Obj)) ++ [] from hp) (by simp)⟩
  generalize hce : (gxCx X A1 s0 H0 scope code fp).env = ce at hA1 ⊢
  intro m
  induction m using Nat.strongRecOn with
  | ind m ih =>
    intro i s₀ s1 H1 I1 st1 n1 w1
    show Seg _ A _ _ 1 s₀ _ ((compTurn (gxE elt tg iter ifs scope pos) 0 (.ref it) .none ce).onRaise (leaving ce)) [] s1
    rw [compTurn_gen, Sem.onRaise_eq_wrap]
    refine seg_bind_wrap (wpAny_standAt ?_)
    rcases turn i m H1 w1 with ⟨stop, qq⟩ | ⟨go, Nx, hNx, step⟩
    · have td := T.done (gxCx X A1 s0 H0 scope code fp) rfl rfl rfl rfl i [] s1 _ H1 (fun _ _ => False) I1 (stat I1 n1) st1 stop
      refine seg_bind_wrap ?_
      rw [← hA1]
      refine thnF td fun r s6 ⟨hr, I6⟩ => ?_
      subst hr
      exact seg_end (.ok .next) (hR _ _ _ _ _ I6 qq)
    · have ti := T.item (gxCx X A1 s0 H0 scope code fp) rfl rfl rfl rfl i [] s1 _ H1 (fun _ _ => False) I1 (stat I1 n1) st1 go
      refine seg_bind_wrap ?_
      rw [← hA1]
      refine thnF ti fun r s6 ⟨u, hr, h6⟩ => ?_
      subst hr
      dsimp only
      refine seg_bind_wrap ?_
      rw [← hA1]
      refine thnF h6 fun _ s7 ⟨x, H7, I7, r7, y7, st7, n7⟩ => ?_
      have I7' := I7.pinned (stat I7 n7) (T.obj _ _ st7)
      have a1 := pg.run _ s7 _ H7 x u _ I7' r7 (step x H7 y7)
      rw [hce] at a1
      refine seg_bind_wrap ?_
      rw [← hA1]
      refine thnF a1 fun _ s8 ⟨σ8, H8, I8, hw8, q8⟩ => ?_
      have a2 := pt.run _ s8 σ8 H8 _ I8 q8
      rw [hce] at a2
      refine seg_bind_wrap ?_
      rw [← hA1]
      refine thnF a2 fun b s9 ⟨H9, I9, q9⟩ => ?_
      cases b with
      | false =>
        simp only [Bool.false_eq_true, if_false] at q9 ⊢
        obtain ⟨m', hm, w'⟩ := hNx H9 q9
        have pin' : ∀ b ∈ fp, ∀ o, s7.heap.get? b = some o → s9.heap.get? b = some o ∧ H9 b = none := fun b hb o e =>
          let z := I9.pin (b, o) (List.mem_append_right _ (List.mem_append_right _ (mem_pinsAt hb e)))
          ⟨z.1, z.2.1⟩
        have hl : (wipe σ vs).length = σ8.length := by rw [← hw8, wipe_length]
        exact seg_again rfl (ih m' hm (i + 1) _ _ H9 ((I9.unpinned (pins := [])).weak hl (fun j v e => by
            rw [← hw8] at e
            exact (wipe_some e).1)) (T.keep _ _ _ st7 fun b hb o e => (pin' b hb o e).1) (fun b hb => by
              obtain ⟨o, e, _⟩ := T.obj _ _ st7 b hb
              exact (pin' b hb o e).2) w')
      | true =>
        simp only [if_true] at q9 ⊢
        have hy : ∀ v, yieldOut ce v = yieldValue v := fun v => by
          subst hce
          simp only [yieldOut]
          show (if scope.isCoroutine = true then _ else _) = _
          rw [hco]
          rfl
        simp only [hy]
        have a3 := pe.run _ s9 σ8 H9 _ I9 q9
        rw [hce] at a3
        rw [Sem.bind_eq_wrap', Sem.bind_eq_wrap', Sem.wrap_wrap, Sem.wrap_wrap]
        refine seg_wrap ?_
        rw [← hA1]
        refine thnF a3 fun v s10 ⟨yv, H10, I10, r10, q10⟩ => ?_
        exact seg_at (seg_yield rfl rfl rfl (hY _ _ _ _ _ _ _ _ _ I10 r10 q10))
end
/-- the state behind the making of a code object -/
def TabStep (T : List (Addr × Str)) (H H' : Hp) : Prop := LamX.ExtN H H' ∧ LamX.Tabs T H' ∧ ∀ b, H' b = none → H b = none
/-- next((e for tg in it if ..), None) -/
def tNx (T : List (Addr × Str)) (wi : TI) (g : TG) (tt : TT) (te : TE) (vs : List Nat) : TE := fun σ H Q => wi σ H fun J H1 => LamX.Tabs T H1 ∧ ∀ H2, TabStep T H1 H2 → ∃ W : Nat → Nat → Hp → Prop, (∃ m, W 0 m H2) ∧ NxTurns J σ vs g tt te Q W
theorem boot_next : bootBuiltins "next" = some (.builtin "next") := by first | rfl | decide +kernel
theorem bare_set {gens : Array GenState} {g : Nat} {x : GenState} (h : AllBare gens) (hx : x.bare = true) : AllBare (gens.setIfInBounds g x) := fun y hy => by
  rcases Array.mem_or_eq_of_mem_setIfInBounds hy with z | z
  · exact h y z
  · rw [z]; exact hx
section
variable {X : Cx} {T : List (Addr × Str)}
/-- the block's code object: found, or made -/
theorem gx_code {pins : List (Addr × Obj)} {σ : L2.St} {H : Hp} {s : Shared} {c P : Addr} {gpos : Pos} {scope : Scope} {E : Value → Shared → Prop} {Q : Value → Shared → Prop} (I : Inv X pins σ H s) (TB : LamX.TabB X.base X.mg c P) (hcode : X.env.code = .ref c)
    (hm : (P, X.env.qual ++ "<genexpr>") ∈ T) (hu : ∀ p ∈ T, p.1 = P → p.2 = X.env.qual ++ "<genexpr>") (hT : LamX.Tabs T H)
    (h : ∀ (code : Value) (H1 : Hp) (s' : Shared), Inv X pins σ H1 s' → TabStep T H H1 → (∀ b o, b ≠ P → s.heap.get? b = some o → s'.heap.get? b = some o) → (∀ b, b < s.heap.objs.size → H b = none → H1 b = none) → Q code s') :
    wpAny (model X.prog X.w) X.A (genexprCode X.env gpos (X.env.qual ++ "<genexpr>") scope) Q E s := by
  obtain ⟨ps, hP, ht, ha⟩ := hT _ hm
  have hP' : s.heap.get? P = some { cls := .none, data := .fields ps } := I.hok P _ hP
  have cd : PySem.W.CodeHd s.heap c P := TB.code.keeps I.bk
  cases hc : codeAmong gpos ps.toList with
  | none =>
    refine wpAny_genexprCodeX hcode (cd.code hP' ht) (cd.tab hP') hc fun c' h' tk hx hge hlt hco' hrec htab' _ => ?_
    obtain ⟨c2, oc, vs, t, e2, hoc, hd, hv⟩ := hrec
    cases e2
    have nC : H c' = none := I.hok.fresh hge
    have I1 := LamX.inv_table (t' := tk) (more := #[rawInt gpos.line, rawInt gpos.col, .ref c']) (h' := h') (q := X.env.qual ++ "<genexpr>") I hP (fun b o hb e => hx b o hb e) htab'.2 hge ⟨oc, vs, t, hoc, hd, hv⟩
    have hE : LamX.ExtN H (upd (upd H P (.tbl (ps ++ #[rawInt gpos.line, rawInt gpos.col, .ref c']))) c' (LamX.CodeO c' (X.env.qual ++ "<genexpr>"))) := fun b o e n => by
      rw [upd_ne (ne_of_none e nC), upd_ne (fun z => n ps (Option.some.inj (e.symm.trans (by rw [z]; exact hP))))]
      exact e
    have eL : (ps ++ #[rawInt gpos.line, rawInt gpos.col, .ref c']).toList = ps.toList ++ [rawInt gpos.line, rawInt gpos.col, .ref c'] := by simp
    refine h _ _ _ I1 ⟨hE, fun p hp => ?_, fun b hb => ?_⟩ (fun b o hb e => hx b o hb e) fun b hlt2 hb => ?_
    · by_cases hb : p.1 = P
      · rw [hu p hp hb, hb]
        refine ⟨_, by rw [upd_ne (ne_of_none hP nC), upd_same], by rw [eL]; exact PySem.TriplesOk_snoc _ _ _ _ ht, fun p' cv hcv => ?_⟩
        rw [eL] at hcv
        rcases LamX.among_app _ ht hcv with z | z
        · obtain ⟨c0, e1, e2⟩ := ha p' cv z
          exact ⟨c0, e1, hE _ _ e2 LamX.codeO_ne⟩
        · exact ⟨c', z, upd_same⟩
      · obtain ⟨ps', a1, a2, a3⟩ := hT p hp
        refine ⟨ps', by rw [upd_ne (ne_of_none a1 nC), upd_ne hb]; exact a1, a2, fun p' cv hcv => ?_⟩
        obtain ⟨c0, e1, e2⟩ := a3 p' cv hcv
        exact ⟨c0, e1, hE _ _ e2 LamX.codeO_ne⟩
    · by_cases z : b = c'
      · rw [z]; exact nC
      · rw [upd_ne z] at hb
        by_cases z2 : b = P
        · rw [z2, upd_same] at hb; cases hb
        · rw [upd_ne z2] at hb; exact hb
    · rw [upd_ne (Nat.ne_of_lt (Nat.lt_of_lt_of_le hlt2 hge)), upd_ne (ne_of_none hP hb).symm]
      exact hb
  | some cv =>
    refine wpAny_genexprCode_hit hcode (cd.code hP' ht) hc ?_
    exact h cv H s I ⟨LamX.ExtN.refl H, hT, fun _ h => h⟩ (fun _ _ _ e => e) fun _ _ h => h
theorem pe_next {c P : Addr} {elt tg iter : Expr} {ifs : List Expr} {scope : Scope} {own : List (Str × Nat)} {p pos gpos cp : Pos} {j : Nat} {k : Nat} {wi : TI} {g : TG} {tt : TT} {te : TE}
    (hc : X.calm = true) (hN : X.N.Nodup) (hr : Room (k + 1) X.A) (hg : Gl X "next") (hm : X.mg "next" = none) (TB : LamX.TabB X.base X.mg c P) (hcode : X.env.code = .ref c)
    (hmT : (P, X.env.qual ++ "<genexpr>") ∈ T) (hu : ∀ p ∈ T, p.1 = P → p.2 = X.env.qual ++ "<genexpr>") (hi : PI X tg iter wi) (L : GxS X.N X.env.scope scope own)
    (pg : ∀ A s H code fp, Room k A → PG (gxCx X A s H scope code fp) tg g) (pt : ∀ A s H code fp, Room k A → PTs (gxCx X A s H scope code fp) ifs tt) (pe : ∀ A s H code fp, Room k A → PE (gxCx X A s H scope code fp) elt te)
    (hs : ∀ v, genFold iter X.env v = pure v)
    (he : starEach [gxE elt tg iter ifs scope gpos, .Constant .none j cp] X.env = (false, eval (gxE elt tg iter ifs scope gpos) X.env) :: starEach [.Constant .none j cp] X.env := by rfl)
    (he2 : starEach [.Constant .none j cp] X.env = (false, eval (.Constant .none j cp) X.env) :: starEach [] X.env := by rfl) :
    PE X (.Call (.Name "next" p) [gxE elt tg iter ifs scope gpos, .Constant .none j cp] [] pos) (tNx T wi g tt te (own.map (·.2))) := by
  refine ⟨fun pins s σ H Q I h => ?_⟩
  refine wpAny_Call_Name_kw (ld_blt I hg hm boot_next ?_)
  refine PyProof.Rows.callWith_builtin1 ?_ he (by rfl)
  rw [he]
  show wpAny _ _ (spliced ((false, eval (gxE elt tg iter ifs scope gpos) X.env) :: backTo pos (starEach [.Constant .none j cp] X.env))) _ _ s
  refine Calls.spliced_cons ?_
  have hroom : X.A.depth < recursionLimit := by have := hr.dp; omega
  refine wpAny_GeneratorExp_make L.co (closure_ok (L.has I.ok)) L.cell L.dot L.kind hroom ?_ hs
  refine thn (hi.run pins s σ H _ I h) fun xv s1 hx => thn hx fun itv s2 h2 => ?_
  obtain ⟨it, fp, tn, J, H1, e, I2, T', st2, f2, hT, q⟩ := h2
  subst e
  refine ⟨I2.nolimit, ?_⟩
  refine gx_code I2 TB hcode hmT hu hT fun code H2 s4 I4 hstep hk hn4 => ?_
  obtain ⟨W, ⟨m0, w0⟩, turn⟩ := q H2 hstep
  have fo : ∀ b ∈ fp, ∃ o, s2.heap.get? b = some o := fun b hb => let ⟨o, e, _⟩ := T'.obj _ _ st2 b hb; ⟨o, e⟩
  have hPs : ∀ b ∈ fp, b ≠ P := fun b hb z => by
    obtain ⟨ps, hP, _⟩ := hT _ hmT
    have := (f2 b hb).1
    rw [z, hP] at this
    cases this
  have kfp : ∀ b ∈ fp, ∀ o, s2.heap.get? b = some o → s4.heap.get? b = some o := fun b hb o e => hk b o (hPs b hb) e
  have f4 : ∀ b ∈ fp, FpOk X pins H2 b ∧ b < s4.heap.objs.size := fun b hb => by
    obtain ⟨o, e⟩ := fo b hb
    exact ⟨⟨hn4 b (Heap.lt_size e) (f2 b hb).1, (f2 b hb).2⟩, Heap.lt_size (kfp b hb o e)⟩
  obtain ⟨bm, ob, e1, e2, e3, e4, e5, e6, e7, e8⟩ := TB.bm
  refine wpAny_builtinsFor (m := X.mg) (by rw [I4.ok.glob]; exact I4.mod.glob.keeps I4.bk) e1 e2 (I4.bk _ _ e5) e6 e7 e8 ?_
  intro h' hn' hs'
  have keep' : ∀ b o, s4.heap.get? b = some o → h'.get? b = some o := fun b o e => hs'.extBut b o (Nat.ne_of_lt (Heap.lt_size e)) (Heap.get?_push_of_some _ e)
  generalize hob : ({ cls := .type "generator", data := .fields #[.int s4.gens.size 0, .str "<genexpr>" (s4.toks + 1), .str (X.env.qual ++ "<genexpr>") (s4.toks + 1 + 1)] } : Obj) = og
  have keep5 : ∀ b o, s4.heap.get? b = some o → (h'.push og).get? b = some o := fun b o e => Heap.get?_push_of_some _ (keep' b o e)
  generalize hgs : GenState.fresh (.compStart (gxE elt tg iter ifs scope gpos) 0 (.ref it) .none (genEnv scope (cloFrom X.env.cells scope.names []) s4.heap.objs.size code builtinsNs X.env)) = gs
  have hbare : gs.bare = true := by subst hgs; rfl
  have I5 : Inv X pins σ H2 { s4 with gens := s4.gens.push gs, toks := s4.toks + 1 + 1 + 1, heap := h'.push og } :=
    I4.call' (ch := []) rfl (Un.kept keep5) (I4.hok.kept keep5) (I4.bare.push hbare) fun b hb => absurd hb (by simp)
  rw [he2]
  show wpAny _ _ (spliced ((false, eval (.Constant .none j cp) X.env) :: backTo pos (starEach [] X.env))) _ _ _
  refine Calls.spliced_cons (Constant_none ?_)
  refine Calls.spliced_nil ?_
  generalize hs5 : ({ s4 with gens := s4.gens.push gs, toks := s4.toks + 1 + 1 + 1, heap := h'.push og } : Shared) = s5 at I5 ⊢
  have hgen : s5.heap.IsGen h'.objs.size s4.gens.size := by
    subst hs5; subst hob
    exact ⟨_, _, _, Heap.get?_push_size _ rfl, rfl, rfl, rfl⟩
  have hgs5 : s5.gens[s4.gens.size]? = some gs := by
    subst hs5
    exact Array.getElem?_push_size ..
  refine Calls.call_function_entry (by decide +kernel) (by decide +kernel) PySem.W.kdk_entry_next (PySem.W.kdk_args_next2 _ _) ?_
  unfold Builtin.«next»
  refine wpAny_bind (m := someArgs "next" 1 2 _) (wpAny_of_eq (a := [Value.ref h'.objs.size, Value.none]) (by first | rfl | kernel_rfl!) ?_)
  dsimp only
  refine wpAny_bind (wpAny_specialOf (name := Str.ofString "__next__") hgen.typeIs slot_gen_next.lookup ?_)
  refine wpAny_ite_split (fun hab => absurd hab (by decide)) (fun _ => ?_)
  have hfin : ∀ (s' : Shared) (gs' : GenState) (σ' : L2.St) (H' : Hp) (pl : List (Addr × Obj)) (A1 : Around) (y : V) (v : Value), gs'.bare = true → Inv (gxCx X A1 s4 H2 scope code fp) pl σ' H' s' → RelV y v → Q y H' → EP X pins σ Q v (s'.setGen s4.gens.size gs') := fun s' gs' σ' H' pl A1 y v hb I' r q => by
    refine ⟨y, H', I4.call' (ch := fp) (s' := s'.setGen s4.gens.size gs') I'.os I'.base I'.hok (bare_set I'.bare hb) (fun b hb => ?_), r, q⟩
    obtain ⟨⟨_, z1, z2, z3, z4, z5⟩, _⟩ := f4 b hb
    exact ⟨z3, z1, z4, z5⟩
  have hfin' : ∀ (s' : Shared) (σ' : L2.St) (H' : Hp) (A1 : Around), Inv (gxCx X A1 s4 H2 scope code fp) [] σ' H' s' → Inv X pins σ H' (s'.setGen s4.gens.size .finished) := fun s' σ' H' A1 I' => by
    refine I4.call' (ch := fp) (s' := s'.setGen s4.gens.size .finished) I'.os I'.base I'.hok (bare_set I'.bare rfl) (fun b hb => ?_)
    obtain ⟨⟨_, z1, z2, z3, z4, z5⟩, _⟩ := f4 b hb
    exact ⟨z3, z1, z4, z5⟩
  have hCL : s4.heap.objs.size < h'.objs.size := by rw [hs'.1, Heap.size_push]; exact Nat.lt_succ_self _
  have loop : ∀ (Ab : Around) (R : GenEnd) (Y : Protocol), Ab.handled = none → Ab.frames = X.A.frames → Ab.depth ≤ X.A.depth + 1 → Ab.units ≤ X.A.units + 6 →
      (∀ n s₀ s' σ' H' pl kap A1 y v, Inv (gxCx X A1 s4 H2 scope code fp) pl σ' H' s' → RelV y v → Q y H' → Y n s₀ v s' kap) →
      (∀ n s₀ s' σ' H' A1, Inv (gxCx X A1 s4 H2 scope code fp) [] σ' H' s' → Q .non H' → R n s₀ (.ok .next) s') →
      gs.Goes (model X.prog X.w) Ab R Y 1 (.send .none) (s5.setGen s4.gens.size .running) := by
    intro Ab R Y hh hfr hdp hun hY hR
    subst hgs
    refine ⟨rfl, ?_⟩
    generalize hcv : genEnv scope (cloFrom X.env.cells scope.names []) s4.heap.objs.size code builtinsNs X.env = cenv
    generalize hA1 : Ab.over (.compLoop (gxE elt tg iter ifs scope gpos) 0 (.ref it) .none cenv) [] = A1
    have hA1d : A1.depth ≤ Ab.depth + 1 := by subst hA1; exact Nat.le_of_eq rfl
    have hA1u : A1.units ≤ Ab.units + 3 := by subst hA1; exact Nat.le_of_eq rfl
    have hA1h : A1.handled = none := by subst hA1; exact hh
    have hA1f : A1.frames = some (cenv :: X.stack) := by
      subst hA1
      unfold Around.over
      dsimp only
      rw [hfr, I4.ok.frames]
      subst hcv
      rfl
    have rm : Room k A1 := ⟨hA1h, by have := hr.dp; omega, by have := hr.un; omega⟩
    have Ist : Inv (gxCx X A1 s4 H2 scope code fp) [] (wipe σ (own.map (·.2))) H2 (s5.setGen s4.gens.size .running) := by
      subst hs5
      refine gx_start (g' := (s4.gens.push _).setIfInBounds s4.gens.size .running) I4 hN L hA1h (by rw [hA1f, hcv]) f4 (hn'.push _) keep5 (bare_set (I4.bare.push hbare) rfl)
    have st5 : tn 0 (s5.setGen s4.gens.size .running).heap := T'.keep _ _ _ st2 fun b hb o e => by
      subst hs5
      exact keep5 b o (kfp b hb o e)
    have lp := gx_loop (X := X) (σ := σ) (H0 := H2) (s0 := s4) (A := Ab) (A1 := A1) (R := R) (Y := Y) (code := code) (fp := fp) (vs := own.map (·.2)) (by rw [← hA1, ← hcv]; rfl) T' L.co (pg A1 s4 H2 code fp rm) (pt A1 s4 H2 code fp rm) (pe A1 s4 H2 code fp rm) turn
      (fun n s₀ y v s' σ' H' pl kap I' r q => hY n s₀ s' σ' H' pl kap A1 y v I' r q) (fun n s₀ s' σ' H' I' q => hR n s₀ s' σ' H' A1 I' q) m0 0 (s5.setGen s4.gens.size .running) (s5.setGen s4.gens.size .running) H2 Ist st5 (fun b hb => (f4 b hb).1.1) w0
    have ecv : (gxCx X A1 s4 H2 scope code fp).env = cenv := by rw [← hcv]; rfl
    rw [ecv] at lp
    show Seg _ Ab R Y 1 _ _ ((compStart (gxE elt tg iter ifs scope gpos) 0 (.ref it) .none cenv).onRaise (leaving cenv)) [] _
    unfold compStart
    rw [Sem.onRaise_eq_wrap]
    show Seg _ Ab _ _ _ _ _ ((ask >>= _).wrap _ _ _ _) [] _
    refine seg_bind_wrap (wpAny_askSetting ?_)
    split
    · exact seg_again rfl lp
    · refine seg_bind_wrap (wpAny_rule ?_)
      refine seg_bind_wrap (wpAny_standAt ?_)
      exact seg_bind_wrap (T'.self _ 0 _ _ _ st5 (seg_again rfl lp))
  refine wpAny_bind ?_
  refine wpAny_pyNext_genexpQ (P := fun n s₀ s₁ => ∃ σ' H' A1, Inv (gxCx X A1 s4 H2 scope code fp) [] σ' H' s₁ ∧ Q .non H') (Y := fun n s₀ v s' kap => ∃ y σ' H' pl A1, Inv (gxCx X A1 s4 H2 scope code fp) pl σ' H' s' ∧ RelV y v ∧ Q y H')
    hr.hd I5.nolimit hroom hgen hgs5 (loop _ _ _ hr.hd rfl (Nat.le_succ _) (by first | exact Nat.le_of_eq rfl | (show X.A.units + 1 + 1 + 1 ≤ _; omega) | (show X.A.units + 1 + 1 ≤ _; omega)) (fun n s₀ s' σ' H' pl kap A1 y v I' r q => ⟨y, σ', H', pl, A1, I', r, q⟩) fun n s₀ s' σ' H' A1 I' q => ⟨rfl, σ', H', A1, I', q⟩) (fun v s₁ gs' hb hv => ?_) fun s₁ hp h' hk' => ?_
  · obtain ⟨y, σ', H', pl, A1, I', r, q⟩ := hv
    exact wpAny_pure ⟨_, rfl, hfin s₁ gs' σ' H' pl A1 y v hb I' r q⟩
  · obtain ⟨σ', H', A1, I', q⟩ := hp
    refine wpAny_pure ⟨_, rfl, ?_⟩
    exact ⟨.non, H', (hfin' s₁ σ' H' A1 I').kept (t' := s₁.toks) hk', rfl, q⟩
end
end FX

set_option Elab.async false
set_option linter.all false
set_option maxRecDepth 100000
set_option maxHeartbeats 2000000
set_option autoImplicit false
/-! FX22: next(e for x in it if ..), None as a function. -/
namespace FX
open PySem PySem.Spec PyProof.Rows L2
/-- the first item that passes -/
def mNxGo (tg : Tg) (t : MT) (e : ME) : Nat → Wk → Env' → Sto → R IV
  | 0, _, _, _ => .no
  | n + 1, k, E, S => match k.step S with
    | none => .no
    | some none => .ok .non S
    | some (some (v, k')) => (match bindT tg v E with
      | none => .no
      | some E1 => match t E1 S with
        | .ok true S1 => (match e E1 S1 with
          | .ok y S2 => .ok y S2
          | _ => .no)
        | .ok false S1 => mNxGo tg t e n k' E S1
        | _ => .no)
def mNx (n : Nat) (mi : MI) (tg : Tg) (t : MT) (e : ME) (vs : List Nat) : ME := fun E S => (mi E S).bind fun k S1 => mNxGo tg t e n k (wipeE E vs) S1
section
variable {X : Cx} {C : Wd} {W : WX}
theorem not_tbl {o : HO} (h : isTbl o = false) : ∀ ps, o ≠ .tbl ps := fun ps e => by
  subst e
  cases h
theorem tab_step {ρ : Map} {S : Sto} {H H' : Hp} (r : Rel C ρ S H) (h : TabStep C.T H H') : Ext ρ S H ρ S H' ∧ Rel C ρ S H' := by
  obtain ⟨h1, h2, h3⟩ := h
  have e : Ext ρ S H ρ S H' := ⟨fun _ _ h => h, fun _ _ h _ => h, fun i a h z => absurd (r.live i a h).1 (Nat.not_lt.mpr z), ⟨0, rfl, rfl⟩, fun b o ho ht _ => h1 b o ho (not_tbl ht), h3, fun _ _ h => h⟩
  refine ⟨e, ⟨fun i o g => ?_, r.inj, fun i a ha => ?_, h2⟩⟩
  · obtain ⟨a, ho, e1, e2, e3⟩ := r.obj i o g
    refine ⟨a, ho, e1, h1 a ho e2 fun ps z => ?_, ro_ext e r e3⟩
    subst z
    cases o with
    | lst xs => obtain ⟨_, z, _⟩ := e3; cases z
    | dct kvs => obtain ⟨_, z, _⟩ := e3; cases z
  · obtain ⟨q1, ho, q2, q3⟩ := r.live i a ha
    exact ⟨q1, ho, h1 a ho q2 (not_tbl (isTbl_cell q3)), q3⟩
theorem nx_noex {g : Tg} {t : MT} {e : ME} : ∀ (n : Nat) (k : Wk) (E : Env') (S : Sto) ex S2, mNxGo g t e n k E S = .ex ex S2 → False := by
  intro n
  induction n with
  | zero => intro k E S ex S2 h; unfold mNxGo at h; cases h
  | succ n ih =>
    intro k E S ex S2 h
    unfold mNxGo at h
    split at h
    · cases h
    · cases h
    · split at h
      · cases h
      · split at h
        · split at h
          · cases h
          · cases h
        · exact ih _ _ _ _ _ h
        · cases h
theorem nx_turns {n : Nat} {g : Tg} {t : MT} {e : ME} {vs : List Nat} (hv : ∀ i ∈ g.slots, i ∈ vs) {σ : L2.St} {E : Env'} {J : It} {k0 : Wk} {ρ1 : Map} {S1 : Sto} {H1 : Hp} {Q : VK} {W : XK} (q : RE C ρ1 H1 E σ) (r1 : Rel C ρ1 S1 H1) (sim : SimJ C J k0 ρ1 S1 H1)
    (h : PR C (RV C) (mNxGo g t e n k0 (wipeE E vs) S1) ρ1 S1 H1 Q W) (H2 : Hp) (hs : TabStep C.T H1 H2) :
    ∃ Wv : Nat → Nat → Hp → Prop, (∃ m, Wv 0 m H2) ∧ NxTurns J σ vs (gI C g) (tT C t W0) (tI C e W0) Q Wv := by
  let Fin : R IV → Prop := fun r => match r with
    | .ok v S2 => ∀ ρ2 H2 x, Ext ρ1 S1 H1 ρ2 S2 H2 → Rel C ρ2 S2 H2 → RV C ρ2 H2 v x → Q x H2
    | _ => False
  have h0 : Fin (mNxGo g t e n k0 (wipeE E vs) S1) := by
    show match mNxGo g t e n k0 (wipeE E vs) S1 with | .ok v S2 => _ | _ => False
    cases er : mNxGo g t e n k0 (wipeE E vs) S1 with
    | no => rw [er] at h; exact h
    | ex x S2 => exact (nx_noex _ _ _ _ _ _ er).elim
    | ok v S2 => rw [er] at h; exact fun ρ2 H2 x a b c => h ρ2 H2 x a b c
  obtain ⟨es, rs⟩ := tab_step r1 hs
  refine ⟨fun i m H => ∃ ρ S, Ext ρ1 S1 H1 ρ S H ∧ Rel C ρ S H ∧ RE C ρ H (wipeE E vs) (L2.wipe σ vs) ∧ Fin (mNxGo g t e m (k0.adv i) (wipeE E vs) S), ⟨n, ρ1, S1, es, rs, (q.ext es r1).wipe vs, ?_⟩, ?_⟩
  · have k0e : k0.adv 0 = k0 := by cases k0 <;> simp [Wk.adv]
    rw [k0e]
    exact h0
  · intro i m H h
    obtain ⟨ρ, S, e0, r, qe, hF⟩ := h
    cases m with
    | zero => exact hF.elim
    | succ m =>
      unfold mNxGo at hF
      cases es : (k0.adv i).step S with
      | none => rw [es] at hF; exact hF.elim
      | some o =>
        cases o with
        | none =>
          rw [es] at hF
          exact .inl ⟨sim.stop i ρ S H e0 r es, hF ρ H .non e0 r (by unfold RV; rfl)⟩
        | some p =>
          obtain ⟨v, k'⟩ := p
          rw [es] at hF
          dsimp only at hF
          obtain ⟨ek, hgo, hyld⟩ := sim.go i ρ S H v k' e0 r es
          subst ek
          cases eb : bindT g v (wipeE E vs) with
          | none => rw [eb] at hF; exact hF.elim
          | some E1 =>
            rw [eb] at hF
            dsimp only at hF
            refine .inr ⟨hgo, fun H' => ∃ ρ S, Ext ρ1 S1 H1 ρ S H' ∧ Rel C ρ S H' ∧ RE C ρ H' (wipeE E vs) (L2.wipe σ vs) ∧ Fin (mNxGo g t e m (k0.adv (i + 1)) (wipeE E vs) S),
              fun H' z => ⟨m, Nat.lt_succ_self m, z⟩, fun x H' hy => ?_⟩
            obtain ⟨e2, r2, x2⟩ := hyld x H' hy
            refine ⟨ρ, wipeE E vs, S, v, E1, qe.ext e2 r, r2, x2, eb, fun σ2 q2 o2 => ⟨wipe_only o2 hv, ?_⟩⟩
            have E02 := e0.trans e2
            have Q2 := qe.ext e2 r
            cases et : t E1 S with
            | no => rw [et] at hF; exact hF.elim
            | ex x S2 => rw [et] at hF; exact hF.elim
            | ok c S2 =>
              refine ⟨ρ, E1, S, q2, r2, ?_⟩
              rw [et]
              rw [et] at hF
              intro ρ3 H3 c' e3 r3 hc
              cases hc
              have E03 := E02.trans e3
              have Q3 := Q2.ext e3 r2
              cases c with
              | false =>
                rw [if_neg Bool.false_ne_true]
                exact ⟨ρ3, S2, E03, r3, Q3, hF⟩
              | true =>
                rw [if_pos rfl]
                dsimp only at hF
                cases ee : e E1 S2 with
                | no => rw [ee] at hF; exact hF.elim
                | ex x S2 => rw [ee] at hF; exact hF.elim
                | ok y S3 =>
                  rw [ee] at hF
                  refine ⟨ρ3, E1, S2, q2.ext e3 r2, r3, ?_⟩
                  rw [ee]
                  intro ρ4 H4 y' e4 r4 hy4
                  exact hF ρ4 H4 y' (E03.trans e4) r4 hy4
theorem nx_mono {n : Nat} {mi : MI} {g : Tg} {t : MT} {e : ME} {vs : List Nat} (hv : ∀ i ∈ g.slots, i ∈ vs) {σ : L2.St} {H : Hp} {Q : VK} (h : tI C (mNx n mi g t e vs) W σ H Q) : tNx C.T (tW C mi W) (gI C g) (tT C t W0) (tI C e W0) vs σ H Q := by
  obtain ⟨ρ, E, S, q, r, h⟩ := h
  refine ⟨ρ, E, S, q, r, ?_⟩
  unfold mNx at h
  cases ek : mi E S with
  | no => rw [ek] at h; exact h
  | ex x S1 => rw [ek] at h; exact h
  | ok k S1 =>
    rw [ek] at h
    intro ρ1 H1 J e1 r1 sim
    have h1 : PR C (RV C) (mNxGo g t e n k (wipeE E vs) S1) ρ S H Q _ := h
    exact ⟨r1.tabs, fun H2 hs => nx_turns hv (q.ext e1 r) r1 sim (h1.ext e1) H2 hs⟩
/-- what a def that makes generator expressions wants of its code object -/
def GxT (X : Cx) (C : Wd) (q : Str) : Prop := ∃ c P, LamX.TabB X.base X.mg c P ∧ X.env.code = .ref c ∧ (P, q) ∈ C.T ∧ ∀ p ∈ C.T, p.1 = P → p.2 = q
theorem qe_next {elt tg iter : Expr} {ifs : List Expr} {scope : Scope} {own : List (Str × Nat)} {p pos gpos cp : Pos} {j k : Nat} {mi : MI} {g : Tg} {t : MT} {e : ME} (n : Nat) (hc : X.calm = true) (hN : X.N.Nodup) (hr : Room (k + 1) X.A) (hg : Gl X "next") (hm : X.mg "next" = none)
    (hT : GxT X C (X.env.qual ++ "<genexpr>")) (hi : PI X tg iter (tW C mi W)) (L : GxS X.N X.env.scope scope own) (hv : ∀ i ∈ g.slots, i ∈ own.map (·.2))
    (pg : ∀ A s H code fp, Room k A → PG (gxCx X A s H scope code fp) tg (gI C g)) (pt : ∀ A s H code fp, Room k A → PTs (gxCx X A s H scope code fp) ifs (tT C t W0)) (pe : ∀ A s H code fp, Room k A → PE (gxCx X A s H scope code fp) elt (tI C e W0))
    (hs : ∀ v, genFold iter X.env v = pure v := by intro _; rfl)
    (he : starEach [gxE elt tg iter ifs scope gpos, .Constant .none j cp] X.env = (false, eval (gxE elt tg iter ifs scope gpos) X.env) :: starEach [.Constant .none j cp] X.env := by rfl)
    (he2 : starEach [.Constant .none j cp] X.env = (false, eval (.Constant .none j cp) X.env) :: starEach [] X.env := by rfl) :
    PE X (.Call (.Name "next" p) [gxE elt tg iter ifs scope gpos, .Constant .none j cp] [] pos) (tI C (mNx n mi g t e (own.map (·.2))) W) := by
  obtain ⟨c, P, TB, hcode, hmT, hu⟩ := hT
  exact pe_mono (pe_next hc hN hr hg hm TB hcode hmT hu hi L pg pt pe hs he he2) fun _ _ _ h => nx_mono hv h
end
end FX

set_option Elab.async false
set_option linter.all false
set_option maxRecDepth 100000
set_option maxHeartbeats 2000000
set_option autoImplicit false
/-! FX23: laws whose defs make generator expressions: the tables of their code objects, from the head to the law's end. -/
namespace FX
open PySem PySem.Spec PyProof.Rows L2 He
/-! ### a def of a known code object -/
section
variable {P : Program} {w : World} {K : PySem.W.Frag} {mg : Str → Option Value} {base : Heap} {C : Wd}
theorem qf_defT {x qual : Str} {params : Arguments} {body : List Stmt} {scope : Scope} {dvs : List V} {kws : List (Str × V)} {f : Addr} {fd : FuncData} {N ps : List Str} {k : Nat} {b : MS} {c : Addr} (F : FunD K x qual params body scope dvs kws f fd) (hc : fd.code = .ref c) (S : FnScope N ps scope)
    (hb : ∀ (A : Around) (outer : List Env) (s : Shared) (H : Hp) (E : XK), Room k (A.deeper (envOfC qual scope s.heap.objs.size f (.ref c))) → PSs (cxOf (L2.CX P w) P w K mg base N qual scope f (.ref c) A outer s H E) body (tS C b (fun c d _ H => E c d H))) :
    FnOk P w K mg base (L2.CX P w) (k + 1) f fd ps (spI C ps.length (mDef N.length b)) := by
  obtain ⟨⟨oc, od, dV, kV, doc, pm, an, cdv, ct, osl, rfl, lk, hcd, h1, h2⟩, kp⟩ := F
  have e : cdv = .ref c := hc
  subst e
  refine fn_of lk hcd S (fun vs H Q E h => h.1) fun A outer s H vs Q E hr h => ⟨_, hb A outer s H E hr, ?_⟩
  obtain ⟨hl, ρ, S0, as, r, hv, q⟩ := h
  refine ⟨ρ, _, S0, re_start hv, r, ?_⟩
  unfold mDef at q
  cases e : b (as.map some ++ List.replicate (N.length - as.length) none) S0 with
  | nx E' S' => rw [e] at q; exact fun ρ1 H1 σ1 e1 r1 _ => q ρ1 H1 .non e1 r1 (rv_non.mpr rfl)
  | rt v S' => rw [e] at q; exact q
  | bk E' S' => rw [e] at q; exact q.elim
  | ct E' S' => rw [e] at q; exact q.elim
  | ex x E' S' => rw [e] at q; exact fun ρ1 H1 σ1 c d e1 r1 _ x1 => q ρ1 H1 c d e1 r1 x1
  | no => rw [e] at q; exact q.elim
end
/-! ### what the head tells of the tables -/
/-- the name of a generator expression's code object in the def x -/
def gq (x : Str) : Str := (x ++ ".<locals>.") ++ "<genexpr>"
def codeP (g : Addr → Option Obj) (c : Addr) : Option Addr := match g c with
  | some ⟨_, _, Data.fields vs, _⟩ => (match (vs[11]? : Option Value) with
    | some (.ref P) => some P
    | _ => none)
  | _ => none
def codeHdB (g : Addr → Option Obj) (c P : Addr) : Bool := match g c with
  | some ⟨.type t, _, Data.fields vs, _⟩ => (t == "code") && ((match (vs[11]? : Option Value) with | some (.ref P') => P' == P | _ => false) && ((match vs.getD 18 .none with | .str _ _ => true | _ => false) && ((match vs.getD 7 .none with | .int _ _ => true | _ => false) &&
      ((match vs.getD 9 .none with | .bool _ => true | _ => false) && ((match vs.getD 10 .none with | .int _ _ => true | _ => false) && !(c == P))))))
  | _ => false
def tabNilB (g : Addr → Option Obj) (P : Addr) : Bool := match g P with
  | some ⟨.none, none, Data.fields vs, sl⟩ => vs.toList.isEmpty && sl.toList.isEmpty
  | _ => false
def fnCode (K : PySem.W.Frag) (x : Str) : Option Addr := match K.lookup (ga K x) with
  | some ⟨_, _, .func fd, _⟩ => (match fd.code with
    | .ref c => some c
    | _ => none)
  | _ => none
def tabAt (g : Addr → Option Obj) (K : PySem.W.Frag) (x : Str) : Option (Addr × Addr) := (fnCode K x).bind fun c => (codeP g c).map fun P => (c, P)
def tabsB (g : Addr → Option Obj) (K : PySem.W.Frag) (gx : List Str) : Bool :=
  (gx.all fun x => match tabAt g K x with
    | some (c, P) => codeHdB g c P && (tabNilB g P && (K.lookup P).isNone)
    | none => false) && gx.all fun x => gx.all fun y => x == y || !((tabAt g K x).map (·.2) == (tabAt g K y).map (·.2))
structure TabOk (h : Heap) (K : PySem.W.Frag) (x : Str) (p : Addr × Addr) : Prop where
  fn : fnCode K x = some p.1
  hd : PySem.W.CodeHd h p.1 p.2
  nil : h.get? p.2 = some { cls := .none, data := .fields #[] }
  out : K.lookup p.2 = none
def TabsH (h : Heap) (K : PySem.W.Frag) (gx : List Str) : Prop := ∃ f : Str → Addr × Addr, (∀ x ∈ gx, TabOk h K x (f x)) ∧ ∀ x ∈ gx, ∀ y ∈ gx, (f x).2 = (f y).2 → x = y
theorem codeHdB_ok {h : Heap} {c P : Addr} (e : codeHdB h.get? c P = true) : PySem.W.CodeHd h c P := by
  unfold codeHdB at e
  split at e
  · rename_i t d vs sl hg
    obtain ⟨e1, e⟩ := ba e
    obtain ⟨e2, e⟩ := ba e
    obtain ⟨e3, e⟩ := ba e
    obtain ⟨e4, e⟩ := ba e
    obtain ⟨e5, e⟩ := ba e
    obtain ⟨e6, e7⟩ := ba e
    have ht : t = "code" := eq_of_beq e1
    subst ht
    split at e2
    · rename_i P' h11
      have hP : P' = P := eq_of_beq e2
      subst hP
      split at e3
      · rename_i file tf h18
        split at e4
        · rename_i fl tg h7
          split at e5
          · rename_i b h9
            split at e6
            · rename_i tx tt h10
              refine ⟨_, vs, file, tf, fl, tg, b, tx, tt, hg, rfl, rfl, h11, ?_, h18, h7, h9, h10, fun z => ?_⟩
              · simp [Array.getD_eq_getD_getElem?, h11]
              · rw [z] at e7
                simp at e7
            · cases e6
          · cases e5
        · cases e4
      · cases e3
    · cases e2
  · cases e
theorem tabNilB_ok {h : Heap} {P : Addr} (e : tabNilB h.get? P = true) : h.get? P = some { cls := .none, data := .fields #[] } := by
  unfold tabNilB at e
  split at e
  · rename_i vs sl hg
    obtain ⟨e1, e2⟩ := ba e
    have h1 : vs = #[] := by
      have := List.isEmpty_iff.mp e1
      exact Array.toList_eq_nil_iff.mp this
    have h2 : sl = #[] := Array.toList_eq_nil_iff.mp (List.isEmpty_iff.mp e2)
    subst h1; subst h2
    exact hg
  · cases e
theorem tabsB_ok {h : Heap} {K : PySem.W.Frag} {gx : List Str} (e : tabsB h.get? K gx = true) : TabsH h K gx := by
  obtain ⟨e1, e2⟩ := ba e
  have at_ : ∀ x ∈ gx, ∃ p, tabAt h.get? K x = some p ∧ TabOk h K x p := fun x hx => by
    have q := List.all_eq_true.mp e1 x hx
    split at q
    · rename_i c P ht
      obtain ⟨q1, q⟩ := ba q
      obtain ⟨q2, q3⟩ := ba q
      refine ⟨(c, P), ht, ?_, codeHdB_ok q1, tabNilB_ok q2, Option.isNone_iff_eq_none.mp q3⟩
      unfold tabAt at ht
      cases hf : fnCode K x with
      | none => rw [hf] at ht; cases ht
      | some c' =>
        rw [hf] at ht
        have ht : (codeP h.get? c').map (fun P => (c', P)) = some (c, P) := ht
        cases hp : codeP h.get? c' with
        | none => rw [hp] at ht; cases ht
        | some P' => rw [hp] at ht; cases ht; rfl
    · cases q
  refine ⟨fun x => (tabAt h.get? K x).getD (0, 0), fun x hx => ?_, fun x hx y hy z => ?_⟩
  · obtain ⟨p, h1, h2⟩ := at_ x hx
    show TabOk h K x ((tabAt h.get? K x).getD (0, 0))
    rw [h1]
    exact h2
  · obtain ⟨p, h1, h2⟩ := at_ x hx
    obtain ⟨p', h1', h2'⟩ := at_ y hy
    have q := List.all_eq_true.mp (List.all_eq_true.mp e2 x hx) y hy
    dsimp only at z
    rw [h1, h1'] at z q
    dsimp only [Option.getD_some, Option.map_some] at z q
    rw [z] at q
    simp at q
    exact q
theorem TabsH.keeps {h h' : Heap} {K : PySem.W.Frag} {gx : List Str} (t : TabsH h K gx) (k : ∀ b o, h.get? b = some o → h'.get? b = some o) : TabsH h' K gx := by
  obtain ⟨f, h1, h2⟩ := t
  exact ⟨f, fun x hx => let q := h1 x hx; ⟨q.fn, q.hd.keeps k, k _ _ q.nil, q.out⟩, h2⟩
/-- the head's objects without the tables -/
def isTabO (o : Obj) : Bool := match o with
  | ⟨.none, none, Data.fields _, _⟩ => true
  | _ => false
def frT (g : Addr → Option Obj) (as : List Addr) : PySem.W.Frag := as.filterMap fun a => match g a with
  | some o => if isTabO o then none else some (a, o)
  | none => none
theorem lookup_mem {a : Addr} {o : Obj} : ∀ {l : List (Addr × Obj)}, l.lookup a = some o → (a, o) ∈ l
  | [], h => by cases h
  | (b, u) :: r, h => by
    rw [List.lookup_cons] at h
    split at h
    · rename_i hb
      cases h
      have : a = b := eq_of_beq hb
      subst this
      exact List.mem_cons_self ..
    · exact List.mem_cons_of_mem _ (lookup_mem h)
theorem frT_in {h : Heap} {as : List Addr} : PySem.W.Frag.In (frT h.get? as) h := fun a o e => by
  obtain ⟨b, hb, q⟩ := List.mem_filterMap.mp (lookup_mem e)
  split at q
  · rename_i u hu
    split at q
    · cases q
    · cases q
      exact hu
  · cases q
def obsTG (n : Nat) (fa : List Fa) (fn : List DefD) (ck : PySem.W.Frag → Bool) (gx : List Str) (g : Addr → Option Obj) : AlD × Bool := (obsF fa fn ck (frT g (asD g n)), tabsB g (frT g (asD g n)) gx)
def hookT (n : Nat) (fa : List Fa) (fn : List DefD) (ck : PySem.W.Frag → Bool) (gx : List Str) : PySem.W.Hook where
  α := AlD × Bool
  obs := fun s => obsTG n fa fn ck gx s.heap.get?
  val := fun _ => (valD fn, true)
  says := fun _ h => ∃ K : PySem.W.Frag, K.In h ∧ SaysF fa fn ck K ∧ TabsH h K gx
  of := fun _ _ e => ⟨_, frT_in, congrArg Prod.fst e, tabsB_ok (congrArg Prod.snd e)⟩
  keeps := fun _ _ _ ⟨K, hK, c, t⟩ k => ⟨K, PySem.W.Frag.In.keeps hK k, c, t.keeps k⟩
theorem obsTG_eq {n : Nat} {fa : List Fa} {fn : List DefD} {ck : PySem.W.Frag → Bool} {gx : List Str} {g : Addr → Option Obj} {s : Shared} (h : ∀ a, g a = s.heap.get? a) : obsTG n fa fn ck gx g = (hookT n fa fn ck gx).obs s := by
  have e : g = s.heap.get? := funext h
  rw [e] <;> rfl
/-! ### a law's end -/
theorem hok_frz {P : Program} {w : World} {H : Hp} {h : Heap} {a : Addr} {xs : List V} (hok : HOk P w H h) (ha : H a = some (.lst xs)) : ∃ o, HOk P w (upd H a (.frz o (.lst xs))) h := by
  obtain ⟨hl, its, n, rv, e⟩ := hok a _ ha
  have ne : ∀ b u, H b = some u → u ≠ .lst xs → b ≠ a := fun b u hb hu z => by
    rw [z, ha] at hb
    exact hu (Option.some.inj hb).symm
  refine ⟨{ cls := .type "list", data := .seq its.toArray n }, fun b u hb => ?_⟩
  by_cases hba : b = a
  · rw [hba, upd_same] at hb
    cases hb
    rw [hba]
    exact ⟨e, hl, its, n, rv, e⟩
  · rw [upd_ne hba] at hb
    exact (hok b u hb).stay (fun _ _ _ q => q) (fun c q => by rw [upd_ne (ne c _ q (by intro z; cases z))]; exact q) fun c ys q => by rw [upd_ne (ne c _ q (by intro z; cases z))]; exact q
theorem hok_unfrz {P : Program} {w : World} {H : Hp} {h : Heap} {a : Addr} {o : Obj} {xs : List V} (hok : HOk P w H h) (ha : H a = some (.frz o (.lst xs))) : HOk P w (upd H a (.lst xs)) h := by
  obtain ⟨e, hl⟩ := hok a _ ha
  have ne : ∀ b u, H b = some u → u ≠ .frz o (.lst xs) → b ≠ a := fun b u hb hu z => by
    rw [z, ha] at hb
    exact hu (Option.some.inj hb).symm
  refine fun b u hb => ?_
  by_cases hba : b = a
  · rw [hba, upd_same] at hb
    cases hb
    rw [hba]
    exact hl
  · rw [upd_ne hba] at hb
    exact (hok b u hb).stay (fun _ _ _ q => q) (fun c q => by rw [upd_ne (ne c _ q (by intro z; cases z))]; exact q) fun c ys q => by rw [upd_ne (ne c _ q (by intro z; cases z))]; exact q
def spL (C : Wd) (n : Nat) : Sp := fun vs H Q _ => ∃ (a : Addr) (ns : List Int), vs = [.ref a] ∧ ns.length ≤ n ∧ SqL C.K H a (ns.map V.int) ∧ LamX.Tabs C.T H ∧ ∀ H', Q (.bl true) H'
theorem law_spF {C : Wd} {m : MF} {n : Nat} (hm : ∀ ns : List Int, ns.length ≤ n → ∃ S, m [.frz (ns.map IV.int)] ⟨0, []⟩ = .ok (.bl true) S) {H : Hp} {a : Addr} {ns : List Int} {Q : VK} (hl : ns.length ≤ n) (hF : SqF C.K H a (ns.map V.int)) (ht : LamX.Tabs C.T H) (hQ : ∀ H', Q (.bl true) H') :
    spI C 1 m [.ref a] H Q fun _ _ _ => False := by
  have r : Rel C (fun _ => none) ⟨0, []⟩ H := ⟨fun i o g => (by rw [get_empty] at g; cases g), fun i j a h _ => (by cases h), fun i a h => (by cases h), ht⟩
  refine ⟨rfl, fun _ => none, ⟨0, []⟩, [.frz (ns.map IV.int)], r, rvs_cons.mpr ⟨.ref a, [], rfl, rv_frz.mpr ⟨a, _, rfl, hF, rvs_ints ns⟩, rvs_nil.mpr rfl⟩, ?_⟩
  obtain ⟨S, e⟩ := hm ns hl
  rw [e]
  intro ρ' H' x _ _ hx
  rw [rv_bl.mp hx]
  exact hQ H'
theorem lawT_fn {P : Program} {w : World} {K : PySem.W.Frag} {mg : Str → Option Value} {base : Heap} {C : Wd} {k : Nat} {f : Addr} {fd : FuncData} {x : Str} {m : MF} {n : Nat} (hm : ∀ ns : List Int, ns.length ≤ n → ∃ S, m [.frz (ns.map IV.int)] ⟨0, []⟩ = .ok (.bl true) S)
    (F : FnOk P w K mg base (L2.CX P w) k f fd [x] (spI C 1 m)) : FnOk P w K mg base CX0 k f fd [x] (spL C n) := by
  refine ⟨fun vs H Q E ⟨a, ns, h, _⟩ => by rw [h]; rfl, fun A outer s H args us vs Q E hr e0 hb hv hs => ?_⟩
  obtain ⟨a, ns, rfl, hl, hq, ht, hQ⟩ := hs
  have fin : ∀ (H1 : Hp) (r : Result) (s' : Shared), CR (L2.CX P w) outer P w H1 s (fun v _ => v = .bl true) (fun _ _ _ => False) r s' → (∀ u, CE outer P w H1 s (fun v _ => v = .bl true) u s' → CE outer P w H s Q u s') → CR CX0 outer P w H s Q E r s' := fun H1 r s' hq k => by
    cases r with
    | ok fl =>
      cases fl with
      | ret u => exact k u hq
      | next => exact hq
      | brk => exact hq
      | cont => exact hq
    | error e =>
      obtain ⟨_, _, _, _, _, _, _, _, _, _, _, _, z⟩ := (show L2.CX P w outer H1 s (fun _ _ _ => False) e s' from hq)
      exact z.elim
  have direct : SqF C.K H a (ns.map V.int) → codeAny (model P w) A (.call (.ref f) args) (CR CX0 outer P w H s Q E) s := fun hF =>
    codeAny_mono (F.run A outer s H args us _ (fun v _ => v = .bl true) (fun _ _ _ => False) hr e0 hb hv (law_spF hm hl hF ht fun _ => rfl)) fun r s' hq => fin H r s' hq fun _ ⟨v, H', a1, a2, a3, a4, a5, a6⟩ => ⟨v, H', a1, a2, a3, a4, a5, by rw [a6]; exact hQ H'⟩
  rcases hq with (h | ⟨o, h⟩) | h
  · -- the script is a list that may be written: it is held fast for the call
    obtain ⟨o, hok⟩ := hok_frz e0.hok h
    have nl : ∀ b, H b = none → b ≠ a := fun b e z => by rw [z, h] at e; cases e
    have ne : ∀ b u, H b = some u → u ≠ .lst (ns.map V.int) → b ≠ a := fun b u hb hu z => by
      rw [z, h] at hb
      exact hu (Option.some.inj hb).symm
    have ht' : LamX.Tabs C.T (upd H a (.frz o (.lst (ns.map V.int)))) := fun p hp => by
      obtain ⟨ps, h1, h2, h3⟩ := ht p hp
      refine ⟨ps, by rw [upd_ne (ne _ _ h1 (by intro z; cases z))]; exact h1, h2, fun pos cv e => ?_⟩
      obtain ⟨c, e1, e2⟩ := h3 pos cv e
      exact ⟨c, e1, by rw [upd_ne (ne _ _ e2 (by intro z; unfold LamX.CodeO at z; cases z))]; exact e2⟩
    have e1 : Env0 P w K mg base A outer s (upd H a (.frz o (.lst (ns.map V.int)))) :=
      ⟨e0.frames, e0.mod, fun b ob e => ⟨(e0.bs b ob e).1, by rw [upd_ne (nl b (e0.bs b ob e).2)]; exact (e0.bs b ob e).2⟩, e0.bsz, e0.funs, fun b hb => by rw [upd_ne (nl b (e0.frf b hb))]; exact e0.frf b hb, hok, e0.bare⟩
    refine codeAny_mono (F.run A outer s _ args us _ (fun v _ => v = .bl true) (fun _ _ _ => False) hr e1 hb hv (law_spF hm hl (.inl ⟨o, upd_same⟩) ht' fun _ => rfl)) fun r s' hq => fin _ r s' hq fun u ⟨v, H', os, bare, un, hok', rv, q⟩ => ?_
    have ha' := un.frzs a o _ upd_same
    have nl' : ∀ b, H b = none → upd H a (.frz o (.lst (ns.map V.int))) b = none := fun b e => by rw [upd_ne (nl b e)]; exact e
    refine ⟨v, upd H' a (.lst (ns.map V.int)), os, bare, ⟨fun b ob e n => un.keep b ob e (nl' b n), fun b ob e n => un.slot b ob e (nl' b n), fun b ob e n hx => by rw [upd_ne (nl b n)]; exact un.free b ob e (nl' b n) hx, fun b ob e hx => un.there b ob e hx, fun b xs e => ?_, fun b ob u e => ?_, fun b ps e => ?_⟩, hok_unfrz hok' ha', rv, ?_⟩
    · have hn := ne b _ e (by intro z; cases z)
      rw [upd_ne hn]
      exact un.tups b xs (by rw [upd_ne hn]; exact e)
    · have hn := ne b _ e (by intro z; cases z)
      rw [upd_ne hn]
      exact un.frzs b ob u (by rw [upd_ne hn]; exact e)
    · have hn := ne b _ e (by intro z; cases z)
      rw [upd_ne hn]
      exact un.tbls b ps (by rw [upd_ne hn]; exact e)
    · rw [q]; exact hQ _
  · exact direct (.inl ⟨o, h⟩)
  · exact direct (.inr h)
/-- a law's walk, its facts told by the head's heap -/
theorem walk_tabs {l : PySem.W.OpenLaw} {n k : Nat} {q : Program} {loose : List Str} {XP : (Str → Option Value) → Heap → Prop} {YP : World → Heap → Prop} {d : DefRec} {x : Str}
    (hn : l.most = some n) (hn2 : n ≤ sizeLine) (hdf : d.params.defaults = []) (hr : Room k callerA)
    (F : ∀ (w : World) (mg : Str → Option Value) (fa : Addr) (h : Heap), YP w h → h.Ns mainGlobals mg → mg d.name = some (.ref fa) → ∃ (K : PySem.W.Frag) (fd : FuncData) (C : Wd) (cs : List (Addr × Addr)), K.In h ∧ C.K = K ∧ (∀ p ∈ cs, h.get? p.2 = some { cls := .none, data := .fields #[] }) ∧ (∀ p ∈ cs, K.lookup p.2 = none) ∧
      (∀ p ∈ cs, PySem.W.CodeHd h p.1 p.2) ∧ (∀ (s : Shared) (u : Value), BindsTo s fd ⟨[u], []⟩ [(x, u)]) ∧ (∀ p ∈ C.T, ∃ c, (c, p.1) ∈ cs) ∧
      ∀ base : Heap, K.In base → base.Ns mainGlobals mg → (∀ p ∈ cs, LamX.TabB base mg p.1 p.2) → FnOk l.prog w K mg base CX0 k fa fd [x] (spL C n)) :
    PySem.W.WalkO q loose XP YP l.row.toRowW d [] (fun f vs => PySem.call f vs) := by
  refine Att.attach_callB hn hdf fun w s₀ s₁ mg mb fa o pm cd doc a vs ns G Y ho hd hcd hmg hobj hints hlen hbits hg => ?_
  obtain ⟨K, fd, C, cs, KX, eK, hT, nT, hC, hb, hTc, hF⟩ := F w mg fa _ Y G.T.g hmg
  refine LamX.law_callTs KX G.T.g G.T.b G.T.builtins G.T.nolimit hg hT nT hC G.T.bmain hobj hints (Nat.le_trans hlen hn2) hr hF hb (fun H hH hS => ?_) fun H e s' h => h
  refine ⟨a, ns, rfl, hlen, by rw [eK]; exact hS, fun p hp => ?_, fun _ => rfl⟩
  obtain ⟨c, hc⟩ := hTc p hp
  exact LamX.TabS.nil (hH _ hc)
end FX

set_option Elab.async false
set_option linter.all false
set_option maxRecDepth 100000
set_option maxHeartbeats 2000000
set_option autoImplicit false
/-! FX24: (a, b, ..) = a list; texts as constants; defs that call themselves. -/
namespace FX
open PySem PySem.Spec PyProof.Rows L2
section
variable {prog : Program} {w : World} {A : Around} {E : Value → Shared → Prop}
theorem isList_at {h h' : Heap} {t : Addr} {items : Array Value} (l : h.IsList t items) (k : ∀ o, h.get? t = some o → h'.get? t = some o) : h'.IsList t items := by
  obtain ⟨o, e, r⟩ := l
  exact ⟨o, k o e, r⟩
theorem draw_lst {it t : Addr} {items : Array Value} (hne : t ≠ it) : ∀ (n i : Nat) (s : Shared) (Q : List Value → Shared → Prop), s.heap.IsListIter it t i → s.heap.IsList t items → i + n ≤ items.size →
    (∀ h', h'.IsListIter it t (i + n) → Heap.SameBut it s.heap h' → Q ((items.toList.drop i).take n) { s with heap := h' }) → wpAny (model prog w) A (draw (.ref it) n) Q E s := by
  intro n
  induction n with
  | zero =>
    intro i s Q hit _ _ hQ
    have := hQ s.heap hit (Heap.SameBut.refl ..)
    rw [List.take_zero] at this
    exact wpAny_pure this
  | succ n ih =>
    intro i s Q hit hl hle hQ
    have hlt : i < items.size := by omega
    show wpAny _ _ (pyNext (.ref it) >>= _) Q E s
    refine wpAny_bind (wpAny_pyNext_list_item hit hl (x := items[i]) (by simp [hlt]) fun h1 hit1 hs1 => ?_)
    refine wpAny_bind (wpAny_holding (ih (i + 1) _ _ hit1 (isList_at hl fun o e => (hs1.2 t hne).trans e) (by omega) fun h2 hit2 hs2 => wpAny_pure ?_))
    have hd : items.toList.drop i = items[i] :: items.toList.drop (i + 1) := by simp [List.drop_eq_getElem_cons, hlt]
    have := hQ h2 (by rw [show i + (n + 1) = i + 1 + n by omega]; exact hit2) (hs1.trans hs2)
    rw [hd, List.take_succ_cons] at this
    exact this
theorem unpack_lst {t : Addr} {items : Array Value} {s : Shared} {targets : List (Bool × (Value → Sem Unit))} {Q : Unit → Shared → Prop} (hh : A.handled = none) (hl : s.heap.IsList t items) (hn : targets.length = items.size) (hstar : targets.findIdx? (·.1) = none)
    (h : ∀ h', Heap.ExtBut s.heap.objs.size s.heap h' → wpAny (model prog w) A (assignInOrder (targets.map (·.2)) items.toList) Q E { s with heap := h' }) : wpAny (model prog w) A (unpack (.ref t) targets) Q E s := by
  unfold unpack
  rw [hn, hstar]
  refine wpAny_bind (wpAny_holding ?_)
  have hlt : t ≠ s.heap.objs.size := by obtain ⟨o, ho, _⟩ := hl; exact Nat.ne_of_lt (Heap.lt_size ho)
  unfold unpackItems
  refine wpAny_bind ?_
  unfold notIterableAtAll
  refine wpAny_bind (wpAny_specialOf hl.typeIs slot_list_iter.lookup ?_)
  refine wpAny_pure ?_
  simp only [Bool.false_eq_true, if_false]
  refine wpAny_bind (wpAny_holding (wpAny_pyIter_list hl ?_))
  have hl2 : (s.heap.push { cls := .type "list_iterator", data := .fields #[.ref t, .int 0 0] }).IsList t items := isList_at hl fun o e => Heap.get?_push_of_some _ e
  refine wpAny_bind (wpAny_holding (draw_lst hlt items.size 0 _ _ ⟨_, Heap.get?_push_size _ rfl, rfl, rfl⟩ hl2 (by omega) fun h1 hit1 hs1 => ?_))
  have hall : List.take items.size (List.drop 0 items.toList) = items.toList := by
    rw [List.drop_zero]; exact List.take_of_length_le (by simp)
  rw [hall, if_neg (by simp)]
  refine wpAny_bind (wpAny_holding (wpAny_pyNext_list_end hh hit1 (isList_at hl2 fun o e => (hs1.2 t hlt).trans e) (by simp) fun h2 he2 => ?_))
  simp only [Option.isSome_none, Bool.false_eq_true, if_false]
  exact wpAny_pure (h h2 fun b o hb e => he2 b o hb (hs1.extBut b o hb (Heap.get?_push_of_some _ e)))
end
section
variable {X : Cx} {C : Wd} {W : WX}
/-- (a, b, ..) = a list of that length -/
def gTupL (K : PySem.W.Frag) (n : Nat) (t : TGs) : TG := fun v σ H Q => ∃ a xs, v = .ref a ∧ SqL K H a xs ∧ xs.length = n ∧ t xs σ H Q
theorem pg_tupL {es : List Expr} {k : Nat} {t : TGs} {n : Nat} {pos : Pos} (hc : X.calm = true) (h : PGs X es t)
    (hn : (assignEach es X.env).length = n := by rfl) (hst : (assignEach es X.env).findIdx? (·.1) = none := by rfl) : PG X (.Tuple es k pos) (gTupL X.K n t) := by
  refine ⟨fun pins s σ H v u Q I r hw => ?_⟩
  obtain ⟨a, xs, e1, hq, hl, hw⟩ := hw
  subst e1
  cases r
  obtain ⟨its, rv, p, hz⟩ := I.list hq
  rw [PyProof.Rows.assign_Tuple]
  refine wpAny_bind (wpAny_standAt (unpack_lst (I.ok.hd hc) p.isList (by simp [hn, ← hl, rv.length]) hst fun h' hx => ?_))
  have I1 : Inv X pins σ H { s with heap := h' } := I.kept (t' := s.toks) fun b o e => hx b o (Nat.ne_of_lt (Heap.lt_size e)) e
  exact h.run pins _ σ H xs _ Q I1 (by simpa using rv) hw
/-- a list's items into several names -/
def mUnp (bs : List Tg) (m : ME) : MS := fun E S => (m E S).to E fun v S1 => match v with
  | .ref n => (match S1.get n with
    | some (.lst vs) => (match bindTs bs vs E with
      | some E' => .nx E' S1
      | none => .no)
    | _ => .no)
  | _ => .no
theorem bindTs_len : ∀ (bs : List Tg) (vs : List IV) (E E' : Env'), bindTs bs vs E = some E' → vs.length = bs.length := by
  intro bs
  induction bs with
  | nil =>
    intro vs E E' h
    cases vs with
    | nil => rfl
    | cons v vs => unfold bindTs at h; cases h
  | cons b bs ih =>
    intro vs E E' h
    cases vs with
    | nil => unfold bindTs at h; cases h
    | cons v vs =>
      unfold bindTs at h
      split at h
      · rw [List.length_cons, List.length_cons, ih _ _ _ h]
      · cases h
theorem qs_unp {es : List Expr} {k : Nat} {e : Expr} {m : ME} {bs : List Tg} {n : Nat} {pos tpos : Pos} (hK : X.K = C.K) (hc : X.calm = true) (he : PE X e (tI C m W)) (hg : PGs X es (gsI C bs)) (hb : bs.length = n)
    (hn : (assignEach es X.env).length = n := by rfl) (hst : (assignEach es X.env).findIdx? (·.1) = none := by rfl) (hs : swapsWithSole [.Tuple es k tpos] e pos.line X.env = pure false := by rfl) (hw : swappedStores [.Tuple es k tpos] e X.env = pure none := by rfl)
    (h1 : (assignEach [.Tuple es k tpos] X.env).map (·.2) = [assign (.Tuple es k tpos) X.env] := by rfl) : PS X (.Assign [.Tuple es k tpos] e pos) (tS C (mUnp bs m) W) :=
  ps_mono (ps_asg he (pg_tupL hc hg hn hst) hs hw h1) fun D σ H h => by
    obtain ⟨ρ, E, S, q, r, h⟩ := h
    refine ⟨ρ, E, S, q, r, PR.mono (PF.to (rel := RV C) q r h) (fun x H1 ⟨ρ1, v, S1, e1, r1, x1, h1⟩ => ?_) fun _ _ _ z => z⟩
    cases v with
    | ref i =>
      dsimp only at h1
      cases g : S1.get i with
      | none => rw [g] at h1; exact h1.elim
      | some o =>
        cases o with
        | dct kvs => rw [g] at h1; exact h1.elim
        | lst vs =>
          rw [g] at h1
          dsimp only at h1
          cases e2 : bindTs bs vs E with
          | none => rw [e2] at h1; exact h1.elim
          | some E' =>
            rw [e2] at h1
            obtain ⟨a, ws, _, hx, hH, rw_⟩ := cell_at r1 x1 g
            refine ⟨a, ws, hx, SqL.of hH, ?_, ρ1, E, S1, vs, E', q.ext e1 r, r1, rw_, e2, fun σ' q' _ => PF.nxt h1 q' r1⟩
            rw [rw_.length, bindTs_len _ _ _ _ e2, hb]
    | non => exact h1.elim
    | bl b => exact h1.elim
    | int b => exact h1.elim
    | str b => exact h1.elim
    | tup b => exact h1.elim
    | frz b => exact h1.elim
    | glo b => exact h1.elim
    | ty b => exact h1.elim
/-- a text of the module -/
theorem qgstr {x : Str} {z : Str} {pos : Pos} (hm : ∃ t, X.mg x = some (.str z t)) (hg : Gl X x := by rfl) (hd : (x == ("__debug__" : Str)) = false := by decide) : PE X (.Name x pos) (tI C (mC (.str z)) W) := by
  obtain ⟨t, h⟩ := hm
  exact qe_c (pe_glob hg h (v := .str z) ⟨t, rfl⟩ hd) fun _ _ => by unfold RV; rfl
end
/-- no fuel: nothing is promised -/
theorem fn_no {P : Program} {w : World} {K : PySem.W.Frag} {mg : Str → Option Value} {base : Heap} {C : Wd} {k : Nat} {f : Addr} {fd : FuncData} {ps : List Str} {CX : CXT} : FnOk P w K mg base CX k f fd ps (spI C ps.length (fun _ _ => .no)) :=
  ⟨fun vs H Q E h => h.1, fun A outer s H args us vs Q E hr e0 hb hv hs => by
    obtain ⟨_, _, _, _, _, _, h⟩ := hs
    exact h.elim⟩
/-! ### the defs that make generator expressions -/
theorem code_of {K : PySem.W.Frag} {x q : Str} {params : Arguments} {body : List Stmt} {scope : Scope} {dvs : List V} {kws : List (Str × V)} {fd : FuncData} {c : Addr} (F : FunD K x q params body scope dvs kws (He.ga K x) fd) (h : fnCode K x = some c) : fd.code = .ref c := by
  obtain ⟨⟨oc, od, dV, kV, doc, pm, an, cdv, ct, osl, rfl, lk, hx⟩, hy⟩ := F
  unfold fnCode at h
  rw [lk] at h
  dsimp only at h
  cases hc : cdv <;> subst hc <;> first | (cases h; done) | (cases h; rfl)
/-- what is told of a def that makes generator expressions -/
def GxD (K : PySem.W.Frag) (mg : Str → Option Value) (base : Heap) (Tb : List (Addr × Str)) (x : Str) : Prop := ∃ c P, fnCode K x = some c ∧ LamX.TabB base mg c P ∧ (P, gq x) ∈ Tb ∧ ∀ p ∈ Tb, p.1 = P → p.2 = gq x
theorem gxD_of {h : Heap} {K : PySem.W.Frag} {mg : Str → Option Value} {base : Heap} {gx : List Str} {f : Str → Addr × Addr} (t1 : ∀ x ∈ gx, TabOk h K x (f x)) (t2 : ∀ x ∈ gx, ∀ y ∈ gx, (f x).2 = (f y).2 → x = y) (tb : ∀ p ∈ gx.map f, LamX.TabB base mg p.1 p.2) :
    ∀ x ∈ gx, GxD K mg base (gx.map fun x => ((f x).2, gq x)) x := fun x hx => by
  refine ⟨(f x).1, (f x).2, (t1 x hx).fn, tb _ (List.mem_map.mpr ⟨x, hx, rfl⟩), List.mem_map.mpr ⟨x, hx, rfl⟩, fun p hp e => ?_⟩
  obtain ⟨y, hy, rfl⟩ := List.mem_map.mp hp
  rw [t2 y hy x hx e]
end FX

set_option Elab.async false
set_option linter.all false
set_option maxRecDepth 100000
set_option maxHeartbeats 2000000
set_option autoImplicit false
/-! FX25: any of a tuple of ints. -/
namespace FX
open PySem PySem.Spec PyProof.Rows L2
def intsT : List IV → Option (List Int)
  | [] => some []
  | .int i :: r => (intsT r).map (i :: ·)
  | _ :: _ => none
def bAnyI : MF := fun as S => match as with
  | [.tup xs] => (match intsT xs with
    | some l => .ok (.bl (l.any (· != 0))) S
    | none => .no)
  | _ => .no
theorem intsT_ok {C : Wd} {ρ : Map} {H : Hp} : ∀ {xs : List IV} {l : List Int} {vs : List V}, intsT xs = some l → RVs C ρ H xs vs → vs = l.map V.int
  | [], l, vs, h, r => by
    cases h
    exact rvs_nil.mp r
  | .int i :: xs, l, vs, h, r => by
    unfold intsT at h
    obtain ⟨l', h1, rfl⟩ := Option.map_eq_some_iff.mp h
    obtain ⟨v, q, rfl, h2, h3⟩ := rvs_cons.mp r
    rw [rv_int.mp h2, intsT_ok h1 h3]
    rfl
  | .non :: _, _, _, h, _ => nomatch (show (none : Option (List Int)) = some _ from h)
  | .bl _ :: _, _, _, h, _ => nomatch (show (none : Option (List Int)) = some _ from h)
  | .str _ :: _, _, _, h, _ => nomatch (show (none : Option (List Int)) = some _ from h)
  | .tup _ :: _, _, _, h, _ => nomatch (show (none : Option (List Int)) = some _ from h)
  | .frz _ :: _, _, _, h, _ => nomatch (show (none : Option (List Int)) = some _ from h)
  | .ref _ :: _, _, _, h, _ => nomatch (show (none : Option (List Int)) = some _ from h)
  | .glo _ :: _, _, _, h, _ => nomatch (show (none : Option (List Int)) = some _ from h)
  | .ty _ :: _, _, _, h, _ => nomatch (show (none : Option (List Int)) = some _ from h)
theorem any_rangeI : ∀ l : List Int, (List.range l.length).any (fun i => (l.getD i 0 != 0)) = l.any (· != 0)
  | [] => rfl
  | b :: l => by
    rw [List.length_cons, List.range_succ_eq_map, List.any_cons, List.any_map, List.any_cons, ← any_rangeI l]
    all_goals rfl
section
variable {X : Cx} {C : Wd} {W : WX}
def rAnyI (K : PySem.W.Frag) : List V → Hp → VK → Prop := fun vs H Q => ∃ (a : Addr) (l : List Int), vs = [V.ref a] ∧ SqT K H a (l.map V.int) ∧ Q (.bl (l.any (· != 0))) H
theorem cr_anyI (hc : X.calm = true) : CallR X (.builtin "any") (rAnyI X.K) := by
  intro pins s σ H vs us Q I r h
  obtain ⟨a, l, rfl, hs, q⟩ := h
  obtain ⟨its, rv, hl, _⟩ := I.tuple hs
  rw [Vals.ref1 r]
  have hlt : a < s.heap.objs.size := by obtain ⟨_, e, _⟩ := hl; exact Heap.lt_size e
  have hlen : its.length = l.length := by have := rv.length; simpa using this.symm
  refine call_any_walk (iter_tuple hl ?_)
  refine ⟨_, _, _, _, _, _, (fun i => (l.getD i 0 != 0)), rfl, Walks.tuple (A := X.A.in1) (I.ok.hd hc) _ a (Nat.ne_of_lt hlt) its.toArray, ⟨⟨_, Heap.get?_push_size _ rfl, rfl, rfl⟩, hl.push _⟩, ?_, fun h' tk hk => ?_⟩
  · intro i v s' Q' E' hv hq
    have hv' : its[i]? = some v := by simpa using hv
    have hi : i < its.length := (List.getElem?_eq_some_iff.mp hv').1
    have hx : (l.map V.int)[i]? = some (V.int (l.getD i 0)) := by
      rw [List.getElem?_map, List.getD_eq_getElem?_getD]
      cases e : l[i]? with
      | none => rw [List.getElem?_eq_none_iff] at e; omega
      | some b => rfl
    obtain ⟨u, hu, ru⟩ := rv.get hx
    rw [hv'] at hu
    cases hu
    obtain ⟨t, rfl⟩ := ru
    exact PySem.P.truthy_int hq
  · refine ⟨.bl _, H, I.kept fun b o eo => hk b o (fun hmem => ?_) (Heap.get?_push_of_some _ eo), ?_, q⟩
    · rcases List.mem_cons.mp hmem with e1 | hmem
      · exact absurd (e1 ▸ Heap.lt_size eo) (Nat.lt_irrefl _)
      · cases hmem
    · show Value.bool _ = Value.bool _
      rw [← any_rangeI, List.size_toArray, hlen]
theorem bAnyI_ok : CallF C bAnyI (rAnyI C.K) := by
  intro ρ S H as xs Q W r h q
  unfold bAnyI at q
  split at q
  · rename_i ys
    obtain ⟨x, rfl, h1⟩ := rvs_one h
    split at q
    · rename_i l e
      obtain ⟨a, vs, rfl, t, w⟩ := rv_tup.mp h1
      rw [intsT_ok e w] at t
      exact ⟨a, l, rfl, t, PR.now (v := IV.bl _) q r (rv_bl.mpr rfl)⟩
    · exact q.elim
  · exact q.elim
theorem qanyI {e : Expr} {ms : MA} {p pos : Pos} (hK : X.K = C.K) (hc : X.calm = true) (hm : X.mg "any" = none) (ha : PA X [e] (tA C ms W)) (hg : Gl X "any" := by rfl) (he : starEach [e] X.env = (false, eval e X.env) :: starEach [] X.env := by rfl) : PE X (.Call (.Name "any" p) [e] [] pos) (tI C (mCall bAnyI ms) W) :=
  qe_callB (r := rAnyI X.K) (cr_anyI hc) (by rw [hK]; exact bAnyI_ok) hg hm (by decide +kernel) ha (by decide) (by decide) he rfl
end
end FX

set_option Elab.async false
set_option linter.all false
set_option maxRecDepth 100000
set_option maxHeartbeats 2000000
set_option autoImplicit false
/-! FX26: tuples of numbers and texts as constants of the module. -/
namespace FX
open PySem PySem.Spec PyProof.Rows L2
section
variable {X : Cx} {C : Wd} {W : WX}
/-- numbers and texts -/
def cV : IV → V
  | .int i => .int i
  | .str x => .str x
  | _ => .non
def cOk : IV → Bool
  | .int _ => true
  | .str _ => true
  | _ => false
theorem cV_ok {ρ : Map} {H : Hp} : ∀ {xs : List IV}, xs.all cOk = true → RVs C ρ H xs (xs.map cV)
  | [], _ => rvs_nil.mpr rfl
  | x :: xs, h => by
    rw [List.all_cons, Bool.and_eq_true] at h
    refine rvs_cons.mpr ⟨_, _, rfl, ?_, cV_ok h.2⟩
    have h1 := h.1
    cases x with
    | int i => exact rv_int.mpr rfl
    | str i => exact rv_str.mpr rfl
    | non => cases h1
    | bl b => cases h1
    | tup b => cases h1
    | frz b => cases h1
    | ref b => cases h1
    | glo b => cases h1
    | ty b => cases h1
theorem qgtupS {x : Str} {xs : List IV} {a : Addr} {pos : Pos} (hm : X.mg x = some (.ref a)) (ht : ∀ H, SqT C.K H a (xs.map cV)) (ho : xs.all cOk = true) (hg : Gl X x := by rfl) (hd : (x == ("__debug__" : Str)) = false := by decide) : PE X (.Name x pos) (tI C (mC (.tup xs)) W) :=
  qe_c (pe_glob hg hm (v := .ref a) rfl hd) fun ρ H => rv_tup.mpr ⟨a, _, rfl, ht H, cV_ok ho⟩
end
end FX

set_option Elab.async false
set_option linter.all false
set_option maxRecDepth 100000
set_option maxHeartbeats 2000000
set_option autoImplicit false
/-! FP: plain laws of the functions of FX, no program in sight -/
namespace FX
open PySem
/-! ### calls in an own store -/
theorem own_flat {f : MF} {as : List IV} {v : IV} {S' : Sto} (ha : flatRs as = true) (h : f as ⟨0, []⟩ = .ok v S') (hv : flatR v = true) (S : Sto) : own f as S = .ok v S := by
  unfold own
  rw [ha, h]
  simp only [hv, cond_true]
theorem own_ref {f : MF} {as : List IV} {n : Nat} {S' : Sto} (ha : flatRs as = true) (h : f as ⟨0, []⟩ = .ok (.ref n) S') (S : Sto) : own f as S = .ok (.ref (S.top + n)) ⟨S.top + S'.top, S'.cells.map (shiftO S.top) ++ S.cells⟩ := by
  unfold own
  rw [ha, h]
  rfl
theorem own_cell {f : MF} {as : List IV} (ha : flatRs as = false) (S : Sto) : own f as S = f as S := by
  unfold own
  rw [ha]
  rfl
theorem shifts_ints (d : Nat) : ∀ xs : List Int, shifts d (xs.map IV.int) = xs.map IV.int
  | [] => rfl
  | x :: xs => by
    show shift d (IV.int x) :: shifts d (xs.map IV.int) = _
    rw [shifts_ints d xs]
    rfl
theorem flat_ints : ∀ xs : List Int, flatRs (xs.map IV.int) = true
  | [] => rfl
  | x :: xs => by
    show (true && flatRs (xs.map IV.int)) = true
    rw [flat_ints xs]
    rfl
theorem get_app {S S' : Sto} (h0 : S'.cells.length = S'.top) (i : Nat) (hi : i < S.top) : (⟨S.top + S'.top, S'.cells.map (shiftO S.top) ++ S.cells⟩ : Sto).get i = S.get i := by
  unfold Sto.get
  show (if i < S.top + S'.top then (S'.cells.map (shiftO S.top) ++ S.cells)[S.top + S'.top - 1 - i]? else none) = _
  rw [if_pos (by omega), if_pos hi, List.getElem?_append_right (by rw [List.length_map]; omega), List.length_map, h0]
  congr 1
  omega
theorem get_app_new {S S' : Sto} (h0 : S'.cells.length = S'.top) (i : Nat) (hi : i < S'.top) : (⟨S.top + S'.top, S'.cells.map (shiftO S.top) ++ S.cells⟩ : Sto).get (S.top + i) = (S'.get i).map (shiftO S.top) := by
  unfold Sto.get
  show (if S.top + i < S.top + S'.top then (S'.cells.map (shiftO S.top) ++ S.cells)[S.top + S'.top - 1 - (S.top + i)]? else none) = _
  rw [if_pos (by omega), if_pos hi, List.getElem?_append_left (by rw [List.length_map]; omega), List.getElem?_map]
  congr 2
  omega
/-! ### results that a check has seen -/
def isV : IV → IV → Bool
  | .int i, .int j => decide (i = j)
  | .bl b, .bl c => b == c
  | .non, .non => true
  | _, _ => false
theorem isV_eq {a b : IV} (h : isV a b = true) : a = b := by
  cases a <;> cases b <;> first | exact absurd h Bool.false_ne_true | rfl | skip
  · rw [eq_of_beq h]
  · rw [of_decide_eq_true h]
def isR (v : IV) : R IV → Bool
  | .ok w _ => isV v w
  | _ => false
theorem isR_eq {v : IV} {r : R IV} (h : isR v r = true) : ∃ S, r = .ok v S := by
  cases r with
  | ok w S => exact ⟨S, by rw [isV_eq h]⟩
  | ex e S => cases h
  | no => cases h
def allInt : List IV → Option (List Int)
  | [] => some []
  | .int i :: r => (match allInt r with
    | some l => some (i :: l)
    | none => none)
  | _ :: _ => none
theorem allInt_eq : ∀ {xs : List IV} {l : List Int}, allInt xs = some l → xs = l.map IV.int
  | [], l, h => by cases h; rfl
  | .int i :: r, l, h => by
    have h' : (match allInt r with
      | some l => some (i :: l)
      | none => none) = some l := h
    cases e2 : allInt r with
    | none => rw [e2] at h'; cases h'
    | some l' =>
      rw [e2] at h'
      cases h'
      rw [allInt_eq e2]
      rfl
  | .non :: _, _, h => by cases h
  | .bl _ :: _, _, h => by cases h
  | .str _ :: _, _, h => by cases h
  | .tup _ :: _, _, h => by cases h
  | .frz _ :: _, _, h => by cases h
  | .ref _ :: _, _, h => by cases h
  | .glo _ :: _, _, h => by cases h
  | .ty _ :: _, _, h => by cases h
/-- the list of integers that a result names -/
def listOf : R IV → Option (List Int)
  | .ok (.ref n) S => if S.cells.length = S.top ∧ n < S.top then (match S.get n with
    | some (.lst xs) => allInt xs
    | _ => none) else none
  | _ => none
theorem listOf_eq {r : R IV} {l : List Int} (h : listOf r = some l) : ∃ n S, r = .ok (.ref n) S ∧ S.cells.length = S.top ∧ n < S.top ∧ S.get n = some (.lst (l.map IV.int)) := by
  cases r with
  | ok v S =>
    cases v with
    | ref n =>
      have h' : (if S.cells.length = S.top ∧ n < S.top then (match S.get n with
        | some (.lst xs) => allInt xs
        | _ => none) else none) = some l := h
      by_cases hh : S.cells.length = S.top ∧ n < S.top
      · rw [if_pos hh] at h'
        cases g : S.get n with
        | none => rw [g] at h'; cases h'
        | some o =>
          cases o with
          | dct kvs => rw [g] at h'; cases h'
          | lst xs =>
            rw [g] at h'
            exact ⟨n, S, rfl, hh.1, hh.2, by rw [← allInt_eq h']; exact g⟩
      · rw [if_neg hh] at h'; cases h'
    | _ => cases h
  | ex e S => cases h
  | no => cases h
/-- S' keeps the cells of S -/
def Keep (S S' : Sto) : Prop := ∀ n o, S.get n = some o → S'.get n = some o
theorem Keep.refl (S : Sto) : Keep S S := fun _ _ h => h
theorem Keep.trans {S S1 S2 : Sto} (h : Keep S S1) (h1 : Keep S1 S2) : Keep S S2 := fun n o g => h1 n o (h n o g)
theorem Keep.new (S : Sto) (o : IO) : Keep S (S.new o) := fun n o' h => by
  rw [get_new_ne (Nat.ne_of_lt (get_lt h))]
  exact h
theorem own_list {f : MF} {as : List IV} {l : List Int} (ha : flatRs as = true) (h : listOf (f as ⟨0, []⟩) = some l) (S : Sto) : ∃ n S', own f as S = .ok (.ref n) S' ∧ S.top ≤ n ∧ S'.get n = some (.lst (l.map IV.int)) ∧ Keep S S' := by
  obtain ⟨n, S', e, h0, h1, h2⟩ := listOf_eq h
  refine ⟨_, _, own_ref ha e S, Nat.le_add_right _ _, ?_, fun i o g => ?_⟩
  · rw [get_app_new h0 n h1, h2]
    show some (IO.lst (shifts _ (l.map IV.int))) = _
    rw [shifts_ints]
  · rw [get_app h0 i (get_lt g)]
    exact g
/-! ### loops -/
theorem forGo_items {tg : Tg} {b : MS} (P : List IV → Env' → Sto → Prop)
    (hs : ∀ x r E S, P (x :: r) E S → ∃ E1 E2 S2, bindT tg x E = some E1 ∧ b E1 S = .nx E2 S2 ∧ P r E2 S2) :
    ∀ (xs : List IV) (n : Nat) (E : Env') (S : Sto), xs.length < n → P xs E S → ∃ E' S', mForGo tg b n (.items xs) E S = .nx E' S' ∧ P [] E' S'
  | [], n + 1, E, S, _, h => ⟨E, S, rfl, h⟩
  | x :: r, n + 1, E, S, hn, h => by
    obtain ⟨E1, E2, S2, h1, h2, h3⟩ := hs x r E S h
    obtain ⟨E', S', h4, h5⟩ := forGo_items P hs r n E2 S2 (Nat.lt_of_succ_lt_succ hn) h3
    refine ⟨E', S', ?_, h5⟩
    unfold mForGo
    simp only [Wk.step, h1, h2]
    exact h4
theorem while_inv {t : MT} {b : MS} (P : Nat → Env' → Sto → Prop) (Q : Env' → Sto → Prop)
    (hs : ∀ k E S, P k E S → (∃ S1, t E S = .ok false S1 ∧ Q E S1) ∨ (∃ S1 E2 S2 k', t E S = .ok true S1 ∧ b E S1 = .nx E2 S2 ∧ k' < k ∧ P k' E2 S2)) :
    ∀ (n k : Nat) (E : Env') (S : Sto), k < n → P k E S → ∃ E' S', mWhile t b n E S = .nx E' S' ∧ Q E' S'
  | n + 1, k, E, S, hn, h => by
    rcases hs k E S h with ⟨S1, h1, h2⟩ | ⟨S1, E2, S2, k', h1, h2, h3, h4⟩
    · refine ⟨E, S1, ?_, h2⟩
      unfold mWhile
      rw [h1]
      rfl
    · obtain ⟨E', S', h5, h6⟩ := while_inv P Q hs n k' E2 S2 (by omega) h4
      refine ⟨E', S', ?_, h6⟩
      unfold mWhile
      rw [h1]
      show (match b E S1 with | .nx E2 S2 => _ | .ct E2 S2 => _ | .bk E2 S2 => _ | .rt v S2 => _ | .ex e E2 S2 => _ | .no => _) = _
      rw [h2]
      exact h5
/-- a comprehension over items whose element leaves the store -/
theorem lcGo_items {tg : Tg} {t : MT} {e : ME} {E : Env'} (g : IV → IV) (S : Sto)
    : ∀ (xs : List IV) (n : Nat) (acc : List IV), xs.length < n → (∀ x ∈ xs, ∃ E1, bindT tg x E = some E1 ∧ t E1 S = .ok true S ∧ e E1 S = .ok (g x) S) → mLcGo tg t e n (.items xs) acc E S = .ok (acc.reverse ++ xs.map g) S
  | [], n + 1, acc, _, _ => by
    unfold mLcGo
    simp [Wk.step]
  | x :: r, n + 1, acc, hn, h => by
    obtain ⟨E1, h1, h2, h3⟩ := h x (List.mem_cons_self ..)
    unfold mLcGo
    simp only [Wk.step, h1, h2, h3]
    rw [lcGo_items g S r n (g x :: acc) (Nat.lt_of_succ_lt_succ hn) fun y hy => h y (List.mem_cons_of_mem _ hy)]
    simp
end FX

set_option Elab.async false
set_option linter.all false
set_option maxRecDepth 100000
set_option maxHeartbeats 2000000
set_option autoImplicit false
/-! FP1: the dice that all laws share -/
namespace FX
open PySem PySem.Spec PyProof.Rows L2
namespace Dice
def b__law_dice : MS :=
  (mSeq (mSet 2 (mB fAdd (mB fMul (mC (.int 107)) (mV 1)) (mC (.int 53))))
    (mSeq (mIfS (mTB (mB fLt (mV 1) (mCall bLen (mCons (mV 0) mNil)))) (mSet 2 (mB fIx (mV 0) (mV 1))) mSkip)
    (mSeq (mSet 3 (mB fMod (mCall bInt (mCons (mCall bAbs (mCons (mV 2) mNil)) mNil)) (mB fPow (mB fPow (mC (.int 10)) (mC (.int 60))) (mC (.int 10)))))
    (mSeq (mSet 4 (mB fDiv (mV 3) (mB fPow (mC (.int 10)) (mC (.int 18)))))
    (mSeq (mSet 5 (mB fAdd (mB fAdd (mB fAdd (mB fMul (mB fMod (mV 3) (mC (.int 2147482589))) (mC (.int 60589))) (mB fMul (mC (.int 3559)) (mV 1))) (mB fMul (mC (.int 97)) (mCall bInt (mCons (mB fLt (mV 2) (mC (.int 0))) mNil)))) (mC (.int 131))))
    (mRet (mLst (mCons (mV 4) (mCons (mB fMod (mV 5) (mC (.int 2147482577))) (mCons (mC (.int 0)) mNil))))))))))
def m__law_dice : MF := mDef 6 b__law_dice
def b__law_roll : MS :=
  (mSeq (mSet 2 (mCall bInt (mCons (mV 1) mNil)))
    (mSeq (mIfS (mTB (mB fGt (mB fIx (mV 0) (mC (.int 0))) (mC (.int 0)))) (mSeq (mSet 3 (mB fMod (mB fIx (mV 0) (mC (.int 0))) (mV 2)))
    (mSeq (mPut (mV 0) (mC (.int 0)) (mB fDiv (mB fIx (mV 0) (mC (.int 0))) (mV 2)))
    (mRet (mCall bInt (mCons (mV 3) mNil))))) mSkip)
    (mSeq (mPut (mV 0) (mC (.int 2)) (mB fAdd (mB fIx (mV 0) (mC (.int 2))) (mC (.int 1))))
    (mSeq (mSet 4 (mB fMod (mB fAdd (mB fIx (mV 0) (mC (.int 1))) (mB fMul (mC (.int 1000393)) (mB fIx (mV 0) (mC (.int 2))))) (mC (.int 2305843009213693951))))
    (mSeq (mSet 5 (mB fAdd (mB fMul (mB fMod (mB fMul (mV 4) (mV 4)) (mC (.int 2305843009213693921))) (mV 4)) (mB fMul (mC (.int 9511)) (mB fIx (mV 0) (mC (.int 2))))))
    (mSeq (mSet 5 (mB fMod (mV 5) (mC (.int 2305843009213693907))))
    (mRet (mCall bInt (mCons (mB fMod (mB fDiv (mV 5) (mC (.int 4096))) (mV 2)) mNil)))))))))
def m__law_roll : MF := mDef 6 b__law_roll
def b__law_one_of : MS :=
  (mRet (mB fIx (mV 1) (mCallO m__law_roll (mCons (mV 0) (mCons (mCall bLen (mCons (mV 1) mNil)) mNil)))))
def m__law_one_of : MF := mDef 2 b__law_one_of
def At (S : Sto) (n : Nat) (k : Nat) : Prop := ∃ a b c : Int, S.get n = some (.lst [.int a, .int b, .int c]) ∧ 0 ≤ a ∧ 0 ≤ b ∧ b < 2147482577 ∧ 0 ≤ c ∧ c ≤ k
theorem At.keep {S S' : Sto} {n k : Nat} (h : At S n k) (e : Keep S S') : At S' n k := by
  obtain ⟨a, b, c, g, r⟩ := h
  exact ⟨a, b, c, e _ _ g, r⟩
/-- S' keeps the cells of S but n -/
def KeepBut (n : Nat) (S S' : Sto) : Prop := ∀ i o, i ≠ n → S.get i = some o → S'.get i = some o
theorem mulFit_small {i j : Int} (hi : i.natAbs < 2 ^ 100) (hj : j.natAbs < 2 ^ 100) : mulFit i j = true := by
  unfold mulFit
  have h1 : i.natAbs.log2 ≤ 100 := by
    by_cases h : i.natAbs = 0
    · rw [h]; decide
    · exact Nat.le_of_lt ((Nat.log2_lt h).mpr hi)
  have h2 : j.natAbs.log2 ≤ 100 := by
    by_cases h : j.natAbs = 0
    · rw [h]; decide
    · exact Nat.le_of_lt ((Nat.log2_lt h).mpr hj)
  exact Nat.ble_eq.mpr (by omega)
theorem divFit_of {j : Int} (h : 0 < j) (h2 : j < 2 ^ 63) : divFit j = true := by
  unfold divFit
  have h3 : j.natAbs.log2 ≤ 63 := Nat.le_of_lt ((Nat.log2_lt (by omega)).mpr (by omega))
  rw [decide_eq_true h]
  exact Nat.ble_eq.mpr (by omega)
theorem atI_of {α : Type} {xs : List α} {r : Int} (h : 0 ≤ r) (h2 : r < xs.length) : ∃ hlt : r.toNat < xs.length, atI xs r = some xs[r.toNat] := by
  have hlt : r.toNat < xs.length := by omega
  refine ⟨hlt, ?_⟩
  unfold L2.atI ixN
  rw [if_pos h, if_pos h2]
  exact List.getElem?_eq_getElem hlt
theorem roll_fit {S : Sto} {n k : Nat} (t : Int) (h : At S n k) (ht : 0 < t) (hd : divFit t = true) (hk : k < 2 ^ 40) :
    ∃ r S', m__law_roll [.ref n, .int t] S = .ok (.int r) S' ∧ 0 ≤ r ∧ r < t ∧ At S' n (k + 1) ∧ KeepBut n S S' ∧ S'.top = S.top := by
  obtain ⟨a, b, c, g, ha, hb, hb2, hc, hc2⟩ := h
  have hz : ¬ t = 0 := by omega
  have i0 : ∀ a b c : IV, L2.atI [a, b, c] 0 = some a := fun _ _ _ => rfl
  have i1 : ∀ a b c : IV, L2.atI [a, b, c] 1 = some b := fun _ _ _ => rfl
  have i2 : ∀ a b c : IV, L2.atI [a, b, c] 2 = some c := fun _ _ _ => rfl
  have x0 : ixN 3 0 = some 0 := rfl
  have x2 : ixN 3 2 = some 2 := rfl
  by_cases hp : 0 < a
  · refine ⟨a.fmod t, S.put n (.lst [.int (a / t), .int b, .int c]), ?_, ?_, ?_, ⟨a / t, b, c, get_put g, ?_, hb, hb2, hc, by omega⟩, fun i o hi h => by rw [get_put_ne g hi]; exact h, rfl⟩
    · simp [m__law_roll, b__law_roll, mDef, mSeq, mSet, mCall, mCons, mNil, mV, mC, mB, mIfS, mTB, fIx, itemsOf, g, i0, i1, i2, R.bind, R.to, bInt, fCmpI, hp, fMod, okI, hz, mPut, mRet, fPut, x0, fDiv, hd]
    · rw [Int.fmod_eq_emod_of_nonneg _ (by omega)]
      exact Int.emod_nonneg _ hz
    · rw [Int.fmod_eq_emod_of_nonneg _ (by omega)]
      exact Int.emod_lt_of_pos _ ht
    · exact Int.ediv_nonneg ha (by omega)
  · generalize ho : (b + 1000393 * (c + 1)).fmod 2305843009213693951 = one
    have h1 : 0 ≤ one ∧ one < 2305843009213693951 := by
      rw [← ho, Int.fmod_eq_emod_of_nonneg _ (by decide)]
      exact ⟨Int.emod_nonneg _ (by decide), Int.emod_lt_of_pos _ (by decide)⟩
    generalize hq : (one * one).fmod 2305843009213693921 = two
    have h2 : 0 ≤ two ∧ two < 2305843009213693921 := by
      rw [← hq, Int.fmod_eq_emod_of_nonneg _ (by decide)]
      exact ⟨Int.emod_nonneg _ (by decide), Int.emod_lt_of_pos _ (by decide)⟩
    have m1 : mulFit 1000393 (c + 1) = true := mulFit_small (by decide) (by omega)
    have m2 : mulFit one one = true := mulFit_small (by omega) (by omega)
    have m3 : mulFit two one = true := mulFit_small (by omega) (by omega)
    have m4 : mulFit 9511 (c + 1) = true := mulFit_small (by decide) (by omega)
    have d1 : divFit 4096 = true := by decide
    have g' : (S.put n (.lst [.int a, .int b, .int (c + 1)])).get n = some (.lst [.int a, .int b, .int (c + 1)]) := get_put g
    refine ⟨((two * one + 9511 * (c + 1)).fmod 2305843009213693907 / 4096).fmod t, S.put n (.lst [.int a, .int b, .int (c + 1)]), ?_, ?_, ?_, ⟨a, b, c + 1, g', ha, hb, hb2, by omega, by push_cast; omega⟩, fun i o hi h => by rw [get_put_ne g hi]; exact h, rfl⟩
    · simp [m__law_roll, b__law_roll, mDef, mSeq, mSet, mCall, mCons, mNil, mV, mC, mB, mIfS, mTB, fIx, itemsOf, g, g', i0, i1, i2, R.bind, R.to, bInt, fCmpI, hp, fMod, okI, hz, mPut, mRet, fPut, x2, fDiv, d1, mSkip, fAdd, fMul, m1, m2, m3, m4, ho, hq]
    · rw [Int.fmod_eq_emod_of_nonneg _ (by omega)]
      exact Int.emod_nonneg _ hz
    · rw [Int.fmod_eq_emod_of_nonneg _ (by omega)]
      exact Int.emod_lt_of_pos _ ht
theorem roll_ok {S : Sto} {n k : Nat} (t : Int) (h : At S n k) (ht : 0 < t) (ht2 : t < 2 ^ 63) (hk : k < 2 ^ 40) :
    ∃ r S', m__law_roll [.ref n, .int t] S = .ok (.int r) S' ∧ 0 ≤ r ∧ r < t ∧ At S' n (k + 1) ∧ KeepBut n S S' ∧ S'.top = S.top := roll_fit t h ht (divFit_of ht ht2) hk
theorem one_of_lst {S : Sto} {n m k : Nat} {xs : List IV} (h : At S n k) (hm : m ≠ n) (g : S.get m = some (.lst xs)) (hx : 0 < xs.length) (hx2 : xs.length < 2 ^ 20) (hk : k < 2 ^ 40) :
    ∃ v S', m__law_one_of [.ref n, .ref m] S = .ok v S' ∧ v ∈ xs ∧ At S' n (k + 1) ∧ KeepBut n S S' ∧ S'.top = S.top := by
  obtain ⟨r, S', e, h1, h2, h3, h4, h5⟩ := roll_ok (xs.length : Int) h (by omega) (by omega) hk
  have g' := h4 m _ hm g
  obtain ⟨hlt, ei⟩ := atI_of h1 h2
  refine ⟨xs[r.toNat]'hlt, S', ?_, List.getElem_mem hlt, h3, h4, h5⟩
  have hf : flatRs [IV.ref n, IV.int (xs.length : Int)] = false := rfl
  simp [m__law_one_of, b__law_one_of, mDef, mRet, mB, mCallO, mCall, mCons, mNil, mV, R.bind, R.to, bLen, itemsOf, g, own_cell hf, e, fIx, g', ei]
theorem one_of_tup {S : Sto} {n k : Nat} {xs : List IV} (h : At S n k) (hx : 0 < xs.length) (hx2 : xs.length < 2 ^ 20) (hk : k < 2 ^ 40) :
    ∃ v S', m__law_one_of [.ref n, .tup xs] S = .ok v S' ∧ v ∈ xs ∧ At S' n (k + 1) ∧ KeepBut n S S' ∧ S'.top = S.top := by
  obtain ⟨r, S', e, h1, h2, h3, h4, h5⟩ := roll_ok (xs.length : Int) h (by omega) (by omega) hk
  obtain ⟨hlt, ei⟩ := atI_of h1 h2
  refine ⟨xs[r.toNat]'hlt, S', ?_, List.getElem_mem hlt, h3, h4, h5⟩
  have hf : flatRs [IV.ref n, IV.int (xs.length : Int)] = false := rfl
  simp [m__law_one_of, b__law_one_of, mDef, mRet, mB, mCallO, mCall, mCons, mNil, mV, R.bind, R.to, bLen, itemsOf, own_cell hf, e, fIx, ei]
theorem dice_ok (ns : List Int) (at_ : Nat) (S : Sto) (hl : ns.length ≤ 63) (ha : at_ ≤ 63) : ∃ a b : Int, m__law_dice [.frz (ns.map IV.int), .int at_] S = .ok (.ref S.top) (S.new (.lst [.int a, .int b, .int 0])) ∧ 0 ≤ a ∧ 0 ≤ b ∧ b < 2147482577 := by
  obtain ⟨big, q1, hb⟩ : ∃ big : Int, mB fPow (mB fPow (mC (.int 10)) (mC (.int 60))) (mC (.int 10)) = mC (.int big) ∧ 0 < big := ⟨(10 ^ 60) ^ 10, funext fun _ => funext fun _ => rfl, by decide⟩
  have q2 : mB fPow (mC (.int 10)) (mC (.int 18)) = mC (.int 1000000000000000000) := funext fun _ => funext fun _ => rfl
  have d1 : divFit 1000000000000000000 = true := by decide
  have hbz : ¬ big = 0 := by omega
  have m1 : mulFit 107 at_ = true := mulFit_small (by decide) (by omega)
  have m2 : mulFit 3559 at_ = true := mulFit_small (by decide) (by omega)
  obtain ⟨cell, hc⟩ : ∃ cell : Int, (if (at_ : Int) < ns.length then L2.atI (ns.map IV.int) at_ = some (.int cell) else cell = 107 * at_ + 53) := by
    by_cases h : (at_ : Int) < ns.length
    · obtain ⟨hlt, ei⟩ := atI_of (xs := ns.map IV.int) (r := (at_ : Int)) (by omega) (by rw [List.length_map]; exact h)
      rw [List.getElem_map] at ei
      exact ⟨_, by rw [if_pos h]; exact ei⟩
    · exact ⟨107 * at_ + 53, by rw [if_neg h]⟩
  generalize hg : (if cell < 0 then -cell else cell).fmod big = great
  have hg1 : 0 ≤ great := by
    rw [← hg, Int.fmod_eq_emod_of_nonneg _ (by omega)]
    exact Int.emod_nonneg _ hbz
  generalize hr : great.fmod 2147482589 = rest
  have hr1 : 0 ≤ rest ∧ rest < 2147482589 := by
    rw [← hr, Int.fmod_eq_emod_of_nonneg _ (by decide)]
    exact ⟨Int.emod_nonneg _ (by decide), Int.emod_lt_of_pos _ (by decide)⟩
  have m3 : mulFit rest 60589 = true := mulFit_small (by omega) (by decide)
  have m4 : mulFit 97 (if cell < 0 then 1 else 0) = true := by split <;> decide
  have fl : fullLen 3 = true := by decide
  refine ⟨great / 1000000000000000000, (rest * 60589 + 3559 * at_ + 97 * (if cell < 0 then 1 else 0) + 131).fmod 2147482577, ?_, Int.ediv_nonneg hg1 (by decide), ?_, ?_⟩
  · by_cases h : (at_ : Int) < ns.length
    · rw [if_pos h] at hc
      unfold m__law_dice b__law_dice
      rw [q1, q2]
      simp [ mDef, mSeq, mSet, mCall, mCons, mNil, mV, mC, mB, mIfS, mTB, fIx, itemsOf, R.bind, R.to, bInt, bAbs, bLen, fCmpI, h, hc, fMod, okI, mRet, fDiv, mSkip, fAdd, fMul, hbz, d1, m1, m2, m3, m4, hg, hr, mLst, fl]
    · rw [if_neg h] at hc
      unfold m__law_dice b__law_dice
      rw [q1, q2]
      simp [ mDef, mSeq, mSet, mCall, mCons, mNil, mV, mC, mB, mIfS, mTB, fIx, itemsOf, R.bind, R.to, bInt, bAbs, bLen, fCmpI, h, ← hc, fMod, okI, mRet, fDiv, mSkip, fAdd, fMul, hbz, d1, m1, m2, m3, m4, hg, hr, mLst, fl]
  · rw [Int.fmod_eq_emod_of_nonneg _ (by decide)]
    exact Int.emod_nonneg _ (by decide)
  · rw [Int.fmod_eq_emod_of_nonneg _ (by decide)]
    exact Int.emod_lt_of_pos _ (by decide)
end Dice
end FX

set_option Elab.async false
set_option linter.all false
set_option maxRecDepth 100000
set_option maxHeartbeats 2000000
set_option autoImplicit false
/-! FP2: powers, greatest common divisors, exponents: functions that many laws share -/
namespace FX
open PySem PySem.Spec PyProof.Rows L2
namespace Ar
def b_power_of : MS :=
  (mSeq (mPar3 2 3 4 (mCons (mC (.int 1)) (mCons (mV 0) (mCons (mV 1) mNil))))
    (mSeq (mWhile (mTB (mB fGt (mV 4) (mC (.int 0)))) (mSeq (mIfS (mTB (mB fEq (mB fMod (mV 4) (mC (.int 2))) (mC (.int 1)))) (mSet 2 (mB fMul (mV 2) (mV 3))) mSkip)
    (mSeq (mSet 4 (mB fDiv (mV 4) (mC (.int 2))))
    (mSet 3 (mIf (mTB (mB fGt (mV 4) (mC (.int 0)))) (mB fMul (mV 3) (mV 3)) (mV 3))))) 100000)
    (mRet (mV 2))))
def m_power_of : MF := mDef 5 b_power_of
def b_exponent_in : MS :=
  (mSeq (mSet 2 (mC (.int 0)))
    (mSeq (mWhile (mTB (mB fEq (mB fMod (mV 1) (mV 0)) (mC (.int 0)))) (mSeq (mAug 1 fDivS (mV 0))
    (mAug 2 fAddI (mC (.int 1)))) 100000)
    (mRet (mV 2))))
def m_exponent_in : MF := mDef 3 b_exponent_in
def b_ratio_in : MS :=
  (mSeq (mSet 2 (mIf (mTB (mB fGt (mV 1) (mC (.int 0)))) (mCall bGcd (mCons (mV 0) (mCons (mV 1) mNil))) (mU fNeg (mCall bGcd (mCons (mV 0) (mCons (mV 1) mNil))))))
    (mRet (mTup (mCons (mB fDiv (mV 0) (mV 2)) (mCons (mB fDiv (mV 1) (mV 2)) mNil)))))
def m_ratio_in : MF := mDef 3 b_ratio_in
def b__law_power : MS :=
  (mSeq (mSet 2 (mC (.int 1)))
    (mSeq (mFor 1000000 (mWk fRange (mCons (mV 1) mNil)) (.name 3) (mSet 2 (mB fMul (mV 2) (mV 0))))
    (mRet (mV 2))))
def m__law_power : MF := mDef 4 b__law_power
def b__law_gcd : MS :=
  (mSeq (mPar 0 1 (mCons (mCall bAbs (mCons (mV 0) mNil)) (mCons (mCall bAbs (mCons (mV 1) mNil)) mNil)))
    (mSeq (mWhile (mTB (mB fGt (mV 1) (mC (.int 0)))) (mPar 0 1 (mCons (mV 1) (mCons (mB fMod (mV 0) (mV 1)) mNil))) 100000)
    (mRet (mV 0))))
def m__law_gcd : MF := mDef 2 b__law_gcd
def b__law_lowest : MS :=
  (mSeq (mSet 2 (mCallO m__law_gcd (mCons (mV 0) (mCons (mV 1) mNil))))
    (mSeq (mIfS (mTB (mB fLt (mV 1) (mC (.int 0)))) (mSet 2 (mB fSub (mC (.int 0)) (mV 2))) mSkip)
    (mRet (mTup (mCons (mB fDiv (mV 0) (mV 2)) (mCons (mB fDiv (mV 1) (mV 2)) mNil))))))
def m__law_lowest : MF := mDef 3 b__law_lowest
def b__law_exponent : MS :=
  (mSeq (mPar 2 3 (mCons (mC (.int 0)) (mCons (mV 1) mNil)))
    (mSeq (mWhile (mTB (mB fEq (mB fMod (mV 3) (mV 0)) (mC (.int 0)))) (mPar 3 2 (mCons (mB fDiv (mV 3) (mV 0)) (mCons (mB fAdd (mV 2) (mC (.int 1))) mNil))) 100000)
    (mRet (mV 2))))
def m__law_exponent : MF := mDef 4 b__law_exponent

theorem mDef_rt {n : Nat} {b : MS} {as : List IV} {E : Env'} {S S' : Sto} {v : IV} (hE : as.map some ++ List.replicate (n - as.length) none = E) (h : b E S = .rt v S') : mDef n b as S = .ok v S' := by
  subst hE
  unfold mDef
  rw [h]
theorem mSeq_nx {a b : MS} {E E1 : Env'} {S S1 : Sto} (h : a E S = .nx E1 S1) : mSeq a b E S = b E1 S1 := by
  unfold mSeq
  rw [h]
theorem mFor_range1 {m : ME} {tg : Tg} {b : MS} {N n : Nat} {E : Env'} {S : Sto} (h : m E S = .ok (.int n) S) (hn : n < 2 ^ 60) : mFor N (mWk fRange (mCons m mNil)) tg b E S = mForGo tg b N (.items (rangeI 0 n)) E S := by
  have h62 : in62 (n : Int) = true := by
    unfold in62
    rw [Bool.and_eq_true]
    exact ⟨decide_eq_true (by omega), decide_eq_true (by omega)⟩
  unfold mFor mWk
  simp only [mCons, mNil, h, R.bind, R.to, fRange, h62, cond_true, Int.toNat_natCast]
theorem mulFit_of {i j : Int} {a b : Nat} (hi : i.natAbs < 2 ^ a) (hj : j.natAbs < 2 ^ b) (h : a + b < 1000000) : mulFit i j = true := by
  unfold mulFit
  have h1 : i.natAbs.log2 ≤ a := by
    by_cases h : i.natAbs = 0
    · rw [h]; exact Nat.zero_le _
    · exact Nat.le_of_lt ((Nat.log2_lt h).mpr hi)
  have h2 : j.natAbs.log2 ≤ b := by
    by_cases h : j.natAbs = 0
    · rw [h]; exact Nat.zero_le _
    · exact Nat.le_of_lt ((Nat.log2_lt h).mpr hj)
  exact Nat.ble_eq.mpr (by omega)
theorem divFit_of {j : Int} {a : Nat} (h : 0 < j) (h2 : j.natAbs < 2 ^ a) (ha : a < 9000) : divFit j = true := by
  unfold divFit
  have h3 : j.natAbs.log2 < a := (Nat.log2_lt (by omega)).mpr h2
  rw [decide_eq_true h]
  exact Nat.ble_eq.mpr (by omega)
theorem fmod_cast (a b : Nat) : (a : Int).fmod (b : Int) = ((a % b : Nat) : Int) := by
  rw [Int.fmod_eq_emod_of_nonneg _ (Int.natCast_nonneg b)]
  rfl
theorem div_cast (a b : Nat) : (a : Int) / (b : Int) = ((a / b : Nat) : Int) := rfl
def pb : MS := mSeq (mIfS (mTB (mB fEq (mB fMod (mV 4) (mC (.int 2))) (mC (.int 1)))) (mSet 2 (mB fMul (mV 2) (mV 3))) mSkip) (mSeq (mSet 4 (mB fDiv (mV 4) (mC (.int 2)))) (mSet 3 (mIf (mTB (mB fGt (mV 4) (mC (.int 0)))) (mB fMul (mV 3) (mV 3)) (mV 3))))
theorem pb_ok (b n f s l l2 r f' s' : Int) (S : Sto) (hd : l / 2 = l2) (hr : l.fmod 2 = r) (h1 : r = 1 → mulFit f s = true) (h2 : 0 < l2 → mulFit s s = true) (hf : f' = if r = 1 then f * s else f) (hs : s' = if 0 < l2 then s * s else s) :
    pb [some (.int b), some (.int n), some (.int f), some (.int s), some (.int l)] S = .nx [some (.int b), some (.int n), some (.int f'), some (.int s'), some (.int l2)] S := by
  have d2 : divFit 2 = true := by decide
  subst hf hs
  by_cases c1 : r = 1 <;> by_cases c2 : 0 < l2
  · simp [pb, mSeq, mIfS, mTB, mB, mV, mC, R.bind, R.to, fCmpI, fMod, okI, hr, fEq, eqIV, mSkip, mSet, fDiv, d2, hd, mIf, c1, c2, h1 c1, h2 c2, fMul]
  · simp [pb, mSeq, mIfS, mTB, mB, mV, mC, R.bind, R.to, fCmpI, fMod, okI, hr, fEq, eqIV, mSkip, mSet, fDiv, d2, hd, mIf, c1, c2, h1 c1, fMul]
  · simp [pb, mSeq, mIfS, mTB, mB, mV, mC, R.bind, R.to, fCmpI, fMod, okI, hr, fEq, eqIV, mSkip, mSet, fDiv, d2, hd, mIf, c1, c2, h2 c2, fMul]
  · simp [pb, mSeq, mIfS, mTB, mB, mV, mC, R.bind, R.to, fCmpI, fMod, okI, hr, fEq, eqIV, mSkip, mSet, fDiv, d2, hd, mIf, c1, c2, fMul]
theorem power_of_ok (b n M : Nat) (S : Sto) (hb : 1 ≤ b) (hM : b ^ n < 2 ^ M) (hM2 : M < 400000) (hn : n < 90000) : m_power_of [.int b, .int n] S = .ok (.int ((b ^ n : Nat) : Int)) S := by
  have key := while_inv (t := mTB (mB fGt (mV 4) (mC (.int 0)))) (b := pb)
    (fun k E S' => ∃ f s l : Nat, E = [some (.int b), some (.int n), some (.int f), some (.int s), some (.int l)] ∧ S' = S ∧ k = l ∧ f * s ^ l = b ^ n ∧ 1 ≤ f ∧ 1 ≤ s)
    (fun E S' => S' = S ∧ ∃ s l : Nat, E = [some (.int b), some (.int n), some (.int ((b ^ n : Nat) : Int)), some (.int s), some (.int l)]) ?_ 100000 n
    [some (.int b), some (.int n), some (.int (1 : Nat)), some (.int b), some (.int n)] S (by omega) ⟨1, b, n, rfl, rfl, rfl, by simp, by omega, hb⟩
  · obtain ⟨E', S', e, rfl, s, l, rfl⟩ := key
    have e0 : b_power_of [some (.int b), some (.int n), none, none, none] S' = .rt (.int ((b ^ n : Nat) : Int)) S' := by
      show mSeq (mWhile (mTB (mB fGt (mV 4) (mC (.int 0)))) pb 100000) (mRet (mV 2)) [some (.int b), some (.int n), some (.int (1 : Nat)), some (.int b), some (.int n)] S' = _
      unfold mSeq
      rw [e]
      rfl
    show (match b_power_of [some (.int b), some (.int n), none, none, none] S' with | .nx _ S' => _ | .rt v S' => _ | .ex e _ S' => _ | _ => _) = _
    rw [e0]
  · intro k E S' ⟨f, s, l, hE, hS, hk, hf, h1, h2⟩
    subst hE hS
    replace hk := hk.symm
    subst hk
    have ht : ∀ x : Int, mTB (mB fGt (mV 4) (mC (.int 0))) [some (.int b), some (.int n), some (.int f), some (.int s), some (.int x)] S' = .ok (decide (0 < x)) S' := fun _ => rfl
    by_cases hl : l = 0
    · subst hl
      left
      refine ⟨S', by rw [ht]; rfl, rfl, s, 0, ?_⟩
      rw [← hf, Nat.pow_zero, Nat.mul_one]
    · right
      have hs1 : s ≤ s ^ l := Nat.le_self_pow hl s
      have hfs : f * s ≤ b ^ n := by rw [← hf]; exact Nat.mul_le_mul_left _ hs1
      have hsM : s < 2 ^ M := Nat.lt_of_le_of_lt (Nat.le_trans (Nat.le_mul_of_pos_left s h1) hfs) hM
      have hfM : f < 2 ^ M := Nat.lt_of_le_of_lt (Nat.le_trans (Nat.le_mul_of_pos_right f h2) hfs) hM
      have m1 : mulFit (f : Int) (s : Int) = true := mulFit_of (a := M) (b := M) (by simpa using hfM) (by simpa using hsM) (by omega)
      have m2 : mulFit (s : Int) (s : Int) = true := mulFit_of (a := M) (b := M) (by simpa using hsM) (by simpa using hsM) (by omega)
      have hs3 : s ^ l = (if l % 2 = 1 then s else 1) * (s * s) ^ (l / 2) := by
        have : l = 2 * (l / 2) + l % 2 := by omega
        conv => lhs; rw [this, Nat.pow_add, Nat.pow_mul]
        rcases Nat.mod_two_eq_zero_or_one l with h | h <;> simp [h, Nat.mul_comm, Nat.pow_two]
      refine ⟨S', [some (.int b), some (.int n), some (.int ((if l % 2 = 1 then f * s else f : Nat) : Int)), some (.int ((if 0 < l / 2 then s * s else s : Nat) : Int)), some (.int ((l / 2 : Nat) : Int))], S', l / 2, ?_, ?_, by omega, _, _, _, rfl, rfl, rfl, ?_, ?_, ?_⟩
      · rw [ht, decide_eq_true (by omega)]
      · refine pb_ok _ _ _ _ _ _ ((l % 2 : Nat) : Int) _ _ S' (div_cast l 2) (fmod_cast l 2) (fun _ => m1) (fun _ => m2) ?_ ?_
        · rcases Nat.mod_two_eq_zero_or_one l with h | h <;> simp [h]
        · by_cases h : 0 < l / 2
          · rw [if_pos h, if_pos (by omega)]
            exact Int.natCast_mul s s
          · rw [if_neg h, if_neg (by omega)]
      · rw [← hf, hs3]
        have hq : (if 0 < l / 2 then s * s else s) ^ (l / 2) = (s * s) ^ (l / 2) := by
          by_cases h : 0 < l / 2
          · rw [if_pos h]
          · rw [Nat.eq_zero_of_not_pos h]; simp
        rw [hq]
        rcases Nat.mod_two_eq_zero_or_one l with h | h <;> simp [h, Nat.mul_assoc]
      · split
        · exact Nat.mul_pos h1 h2
        · exact h1
      · split
        · exact Nat.mul_pos h2 h2
        · exact h2

/-! ### a power, turn by turn -/
theorem lpow_ok (b n M : Nat) (S : Sto) (hb : 1 ≤ b) (hM : b ^ n < 2 ^ M) (hM2 : M < 400000) (hn : n < 90000) : m__law_power [.int b, .int n] S = .ok (.int ((b ^ n : Nat) : Int)) S := by
  have hlen : ∀ (k : Nat) (i : Int), (rangeI i k).length = k := by
    intro k
    induction k with
    | zero => intro i; rfl
    | succ k ih => intro i; exact congrArg (· + 1) (ih (i + 1))
  have key := forGo_items (tg := .name 3) (b := mSet 2 (mB fMul (mV 2) (mV 0)))
    (fun r E S' => ∃ (f : Nat) (fi : Int) (x : Option IV), fi = f ∧ E = [some (.int b), some (.int n), some (.int fi), x] ∧ S' = S ∧ f * b ^ r.length = b ^ n) ?_ (rangeI 0 n) 1000000 [some (.int b), some (.int n), some (.int 1), none] S (by rw [hlen]; omega) ⟨1, 1, none, rfl, rfl, rfl, by rw [hlen]; simp⟩
  · generalize hN : 1000000 = N at key
    obtain ⟨E', S', e, f, fi, x, h0, h1, h3, h2⟩ := key
    have h4 : f = b ^ n := by simpa using h2
    subst h4 h0 h3 h1
    have e1 : mFor N (mWk fRange (mCons (mV 1) mNil)) (.name 3) (mSet 2 (mB fMul (mV 2) (mV 0))) [some (.int b), some (.int n), some (.int 1), none] S' = .nx [some (.int b), some (.int n), some (.int ((b ^ n : Nat) : Int)), x] S' := by
      rw [mFor_range1 (n := n) rfl (by omega)]
      exact e
    refine mDef_rt (E := [some (.int b), some (.int n), none, none]) rfl ?_
    unfold b__law_power
    rw [hN]
    refine (mSeq_nx (a := mSet 2 (mC (.int 1))) (E1 := [some (.int b), some (.int n), some (.int 1), none]) (S1 := S') rfl).trans ?_
    rw [mSeq_nx e1]
    rfl
  · rintro x r E S' ⟨f, fi, y, rfl, rfl, rfl, h⟩
    have hp : b ≤ b ^ (x :: r).length := Nat.le_self_pow (by simp) b
    have hb0 : 0 < b ^ (x :: r).length := Nat.pow_pos hb
    have hfb : f * b ≤ b ^ n := by rw [← h]; exact Nat.mul_le_mul_left _ hp
    have hpos : 0 < b ^ n := Nat.pow_pos hb
    have hf1 : 1 ≤ f := by
      rcases Nat.eq_zero_or_pos f with z | z
      · rw [z, Nat.zero_mul] at h; omega
      · exact z
    have m : mulFit (f : Int) (b : Int) = true := mulFit_of (a := M) (b := M) (by simpa using Nat.lt_of_le_of_lt (Nat.le_trans (Nat.le_mul_of_pos_right f hb) hfb) hM) (by simpa using Nat.lt_of_le_of_lt (Nat.le_trans (Nat.le_mul_of_pos_left b hf1) hfb) hM) (by omega)
    refine ⟨_, [some (.int b), some (.int n), some (.int ((f * b : Nat) : Int)), some x], S', rfl, ?_, f * b, _, some x, rfl, rfl, rfl, ?_⟩
    · show R.to (okI (mulFit (f : Int) (b : Int)) ((f : Int) * (b : Int)) S') _ _ = _
      rw [m]
      rfl
    · rw [← h, List.length_cons, Nat.pow_succ, Nat.mul_assoc, Nat.mul_comm b]
/-! ### greatest common divisors -/
theorem natAbs_if (i : Int) : (if i < 0 then -i else i) = (i.natAbs : Int) := by
  split <;> omega
theorem lgcd_ok (x y : Int) (M : Nat) (S : Sto) (hx : x.natAbs < 2 ^ M) (hy : y.natAbs < 2 ^ M) (hM : M < 40000) : m__law_gcd [.int x, .int y] S = .ok (.int ((Nat.gcd x.natAbs y.natAbs : Nat) : Int)) S := by
  have key := while_inv (t := mTB (mB fGt (mV 1) (mC (.int 0)))) (b := mPar 0 1 (mCons (mV 1) (mCons (mB fMod (mV 0) (mV 1)) mNil)))
    (fun k E S' => ∃ a b : Nat, E = [some (.int a), some (.int b)] ∧ S' = S ∧ Nat.gcd a b = Nat.gcd x.natAbs y.natAbs ∧ ((b ≤ a ∧ a * b < 2 ^ k) ∨ ∃ k', k = k' + 1 ∧ a * b < 2 ^ k'))
    (fun E S' => S' = S ∧ ∃ b : Int, E = [some (.int ((Nat.gcd x.natAbs y.natAbs : Nat) : Int)), some (.int b)]) ?_ 100000 (2 * M + 1) [some (.int (x.natAbs : Int)), some (.int (y.natAbs : Int))] S (by omega)
    ⟨_, _, rfl, rfl, rfl, .inr ⟨2 * M, rfl, by rw [Nat.two_mul, Nat.pow_add]; exact Nat.mul_lt_mul'' hx hy⟩⟩
  · obtain ⟨E', S', e, rfl, b, rfl⟩ := key
    have e0 : b__law_gcd [some (.int x), some (.int y)] S' = .rt (.int ((Nat.gcd x.natAbs y.natAbs : Nat) : Int)) S' := by
      show mSeq (mWhile (mTB (mB fGt (mV 1) (mC (.int 0)))) (mPar 0 1 (mCons (mV 1) (mCons (mB fMod (mV 0) (mV 1)) mNil))) 100000) (mRet (mV 0)) [some (.int (if x < 0 then -x else x)), some (.int (if y < 0 then -y else y))] S' = _
      rw [natAbs_if, natAbs_if]
      unfold mSeq
      rw [e]
      rfl
    show (match b__law_gcd [some (.int x), some (.int y)] S' with | .nx _ S' => _ | .rt v S' => _ | .ex e _ S' => _ | _ => _) = _
    rw [e0]
  · rintro k E S' ⟨a, b, rfl, rfl, hg, hk⟩
    by_cases hb : b = 0
    · subst hb
      left
      refine ⟨S', rfl, rfl, 0, ?_⟩
      rw [Nat.gcd_zero_right] at hg
      rw [← hg]
      rfl
    · right
      have hz : ¬ ((b : Int) = 0) := by omega
      have ht : mTB (mB fGt (mV 1) (mC (.int 0))) [some (.int a), some (.int b)] S' = .ok (decide ((0 : Int) < b)) S' := rfl
      have hs : mPar 0 1 (mCons (mV 1) (mCons (mB fMod (mV 0) (mV 1)) mNil)) [some (.int a), some (.int b)] S' = .nx [some (.int b), some (.int ((a % b : Nat) : Int))] S' := by
        have hm : fMod (.int a) (.int b) S' = .ok (.int ((a % b : Nat) : Int)) S' := by
          show okI (!decide ((b : Int) = 0)) ((a : Int).fmod b) S' = _
          rw [decide_eq_false hz, fmod_cast]
          rfl
        simp only [mPar, mCons, mNil, mB, mV, R.bind, List.getElem?_cons_zero, List.getElem?_cons_succ, hm]
        rfl
      have hg' : Nat.gcd b (a % b) = Nat.gcd x.natAbs y.natAbs := by rw [← hg, Nat.gcd_comm a b, Nat.gcd_rec b a, Nat.gcd_comm]
      have hab : 1 ≤ b := by omega
      have hr := Nat.mod_lt a hab
      rcases hk with ⟨h1, h2⟩ | ⟨k', rfl, h2⟩
      · have h3 : 2 * (a % b) < a := by
          have hd := Nat.div_add_mod a b
          have hq : 1 ≤ a / b := Nat.div_pos h1 hab
          have : b * 1 ≤ b * (a / b) := Nat.mul_le_mul_left b hq
          omega
        cases k with
        | zero =>
          have : 1 ≤ a * b := Nat.mul_pos (by omega) hab
          omega
        | succ k =>
          refine ⟨S', _, S', k, by rw [ht, decide_eq_true (by omega)], hs, Nat.lt_succ_self k, b, a % b, rfl, rfl, hg', .inl ⟨by omega, ?_⟩⟩
          have h4 : b * (2 * (a % b)) < b * a := Nat.mul_lt_mul_of_pos_left h3 hab
          rw [Nat.mul_comm a b, Nat.pow_succ] at h2
          have h5 : b * (2 * (a % b)) = b * (a % b) * 2 := by rw [Nat.mul_comm 2, Nat.mul_assoc]
          omega
      · refine ⟨S', _, S', k', by rw [ht, decide_eq_true (by omega)], hs, Nat.lt_succ_self k', b, a % b, rfl, rfl, hg', .inl ⟨by omega, ?_⟩⟩
        refine Nat.lt_of_le_of_lt ?_ h2
        rw [Nat.mul_comm a b]
        exact Nat.mul_le_mul_left _ (Nat.mod_le a b)
theorem lowest_ok (x y M : Nat) (S : Sto) (hx : x < 2 ^ M) (hy : y < 2 ^ M) (hp : 0 < y) (hM : M < 8000) : m__law_lowest [.int x, .int y] S = .ok (.tup [.int ((x / Nat.gcd x y : Nat) : Int), .int ((y / Nat.gcd x y : Nat) : Int)]) S := by
  have hg := lgcd_ok x y M ⟨0, []⟩ hx hy (by omega)
  have hg2 := own_flat (as := [.int x, .int y]) rfl hg rfl S
  have hgp : 0 < Nat.gcd x y := Nat.gcd_pos_of_pos_right x hp
  have hgl : Nat.gcd x y < 2 ^ M := Nat.lt_of_le_of_lt (Nat.gcd_le_right x hp) hy
  have hd : divFit ((Nat.gcd x y : Nat) : Int) = true := divFit_of (a := M) (by omega) (by simpa using hgl) (by omega)
  have hn : ¬ ((y : Int) < 0) := by omega
  simp only [Int.natAbs_natCast] at hg2
  generalize hgg : Nat.gcd x y = g at *
  rw [← div_cast, ← div_cast]
  generalize (g : Int) = gi at *
  generalize (x : Int) = xi at *
  generalize (y : Int) = yi at *
  have fl : fullLen 2 = true := by decide
  simp [m__law_lowest, b__law_lowest, mDef, mSeq, mSet, mCallO, mCons, mNil, mV, mC, R.bind, R.to, hg2, mIfS, mTB, mB, fCmpI, hn, mSkip, mRet, mTup, fDiv, hd, fl]
theorem ratio_ok (x y M : Nat) (S : Sto) (hx : x < 2 ^ M) (hy : y < 2 ^ M) (hp : 0 < y) (hM : M < 8000) : m_ratio_in [.int x, .int y] S = .ok (.tup [.int ((x / Nat.gcd x y : Nat) : Int), .int ((y / Nat.gcd x y : Nat) : Int)]) S := by
  have hgp : 0 < Nat.gcd x y := Nat.gcd_pos_of_pos_right x hp
  have hgl : Nat.gcd x y < 2 ^ M := Nat.lt_of_le_of_lt (Nat.gcd_le_right x hp) hy
  have hd : divFit ((Nat.gcd x y : Nat) : Int) = true := divFit_of (a := M) (by omega) (by simpa using hgl) (by omega)
  have hn : (0 : Int) < (y : Int) := by omega
  have hg2 : bGcd [.int x, .int y] S = .ok (.int ((Nat.gcd x y : Nat) : Int)) S := rfl
  generalize hgg : Nat.gcd x y = g at *
  rw [← div_cast, ← div_cast]
  generalize (g : Int) = gi at *
  generalize (x : Int) = xi at *
  generalize (y : Int) = yi at *
  have fl : fullLen 2 = true := by decide
  simp [m_ratio_in, b_ratio_in, mDef, mSeq, mSet, mCall, mCons, mNil, mV, mC, R.bind, R.to, hg2, mIf, mTB, mB, fCmpI, hn, mSkip, mRet, mTup, fDiv, hd, fl]
/-! ### exponents -/
def expoF : Nat → Nat → Nat → Nat
  | 0, _, _ => 0
  | k + 1, p, n => if n % p = 0 then expoF k p (n / p) + 1 else 0
def expo (p n : Nat) : Nat := expoF (n.log2 + 1) p n
theorem lexp_ok (p : Nat) (n : Nat) (S : Sto) (hp : 2 ≤ p) (hn : n ≠ 0) (hM : n.log2 < 40000) (hp2 : p < 2 ^ 8000) : m__law_exponent [.int p, .int n] S = .ok (.int (expo p n : Int)) S := by
  have key := while_inv (t := mTB (mB fEq (mB fMod (mV 3) (mV 0)) (mC (.int 0)))) (b := mPar 3 2 (mCons (mB fDiv (mV 3) (mV 0)) (mCons (mB fAdd (mV 2) (mC (.int 1))) mNil)))
    (fun k E S' => ∃ m v : Nat, E = [some (.int p), some (.int n), some (.int v), some (.int m)] ∧ S' = S ∧ m ≠ 0 ∧ m < 2 ^ k ∧ v + expoF k p m = expo p n)
    (fun E S' => S' = S ∧ ∃ m : Nat, E = [some (.int p), some (.int n), some (.int (expo p n : Int)), some (.int m)]) ?_ 100000 (n.log2 + 1) [some (.int p), some (.int n), some (.int (0 : Nat)), some (.int n)] S (by omega)
    ⟨n, 0, rfl, rfl, hn, (Nat.log2_lt hn).mp (Nat.lt_succ_self _), Nat.zero_add _⟩
  · obtain ⟨E', S', e, rfl, m, rfl⟩ := key
    have e0 : b__law_exponent [some (.int p), some (.int n), none, none] S' = .rt (.int (expo p n : Int)) S' := by
      show mSeq (mWhile (mTB (mB fEq (mB fMod (mV 3) (mV 0)) (mC (.int 0)))) (mPar 3 2 (mCons (mB fDiv (mV 3) (mV 0)) (mCons (mB fAdd (mV 2) (mC (.int 1))) mNil))) 100000) (mRet (mV 2)) [some (.int p), some (.int n), some (.int (0 : Nat)), some (.int n)] S' = _
      unfold mSeq
      rw [e]
      rfl
    show (match b__law_exponent [some (.int p), some (.int n), none, none] S' with | .nx _ S' => _ | .rt v S' => _ | .ex e _ S' => _ | _ => _) = _
    rw [e0]
  · rintro k E S' ⟨m, v, rfl, rfl, hm, hk, hv⟩
    have hz : ¬ ((p : Int) = 0) := by omega
    have hM : fMod (.int m) (.int p) S' = .ok (.int ((m % p : Nat) : Int)) S' := by
      show okI (!decide ((p : Int) = 0)) ((m : Int).fmod p) S' = _
      rw [decide_eq_false hz, fmod_cast]
      rfl
    have ht : mTB (mB fEq (mB fMod (mV 3) (mV 0)) (mC (.int 0))) [some (.int p), some (.int n), some (.int v), some (.int m)] S' = .ok (decide (((m % p : Nat) : Int) = 0)) S' := by
      simp only [mTB, mB, mV, mC, R.bind, List.getElem?_cons_zero, List.getElem?_cons_succ, hM]
      rfl
    cases k with
    | zero => exact absurd hk (by omega)
    | succ k =>
      by_cases h0 : m % p = 0
      · right
        have hdf : divFit (p : Int) = true := divFit_of (a := 8000) (by omega) (by simpa using hp2) (by omega)
        refine ⟨S', [some (.int p), some (.int n), some (.int ((v + 1 : Nat) : Int)), some (.int ((m / p : Nat) : Int))], S', k, by rw [ht, h0]; rfl, ?_, Nat.lt_succ_self k, m / p, v + 1, rfl, rfl, ?_, ?_, ?_⟩
        · have hD : fDiv (.int m) (.int p) S' = .ok (.int ((m / p : Nat) : Int)) S' := by
            show (bif divFit (p : Int) then _ else _) = _
            rw [hdf]
            rfl
          simp only [mPar, mCons, mNil, mB, mV, R.bind, List.getElem?_cons_zero, List.getElem?_cons_succ, hD]
          rfl
        · intro z
          have := Nat.div_add_mod m p
          rw [z, h0, Nat.mul_zero] at this
          omega
        · have h5 : m / p ≤ m / 2 := Nat.div_le_div_left hp (by decide)
          rw [Nat.pow_succ] at hk
          omega
        · rw [← hv]
          show v + 1 + expoF k p (m / p) = v + (if m % p = 0 then expoF k p (m / p) + 1 else 0)
          rw [if_pos h0]
          omega
      · left
        refine ⟨S', by rw [ht, decide_eq_false (by omega)], rfl, m, ?_⟩
        have : v = expo p n := by
          rw [← hv]
          show v = v + (if m % p = 0 then expoF k p (m / p) + 1 else 0)
          rw [if_neg h0]
          rfl
        rw [this]
end Ar
end FX

set_option Elab.async false
set_option linter.all false
set_option maxRecDepth 100000
set_option maxHeartbeats 2000000
set_option autoImplicit false
/-! FP3: equality of rows of integers, ranges, sums, small blocks -/
namespace FX
open PySem PySem.Spec PyProof.Rows L2
theorem toDs_ints (S : Sto) : ∀ (l : List Int) (n : Nat), l.length + 1 < n → toDs S n (l.map IV.int) = some (l.map PyData.int)
  | [], n + 1, _ => rfl
  | i :: l, n + 2, h => by
    have e := toDs_ints S l (n + 1) (by simp at h; omega)
    show (match toD S (n + 1) (IV.int i) with | some d => (match toDs S (n + 1) (l.map IV.int) with | some ds => some (d :: ds) | none => none) | none => none) = _
    rw [e]
    rfl
theorem lay_ints : ∀ l : List Int, PyData.canLayAll0 (l.map PyData.int) = true
  | [] => rfl
  | i :: l => by
    show (PyData.canLay0 (.int i) && PyData.canLayAll0 (l.map PyData.int)) = true
    rw [lay_ints l]
    rfl
theorem dep_ints : ∀ l : List Int, PyData.depthAll (l.map PyData.int) = 0
  | [] => rfl
  | i :: l => by
    show max (PyData.depth (.int i)) (PyData.depthAll (l.map PyData.int)) = 0
    rw [dep_ints l]
    rfl
theorem eqv_ints : ∀ l l' : List Int, PyData.eqvAll (l.map PyData.int) (l'.map PyData.int) = decide (l = l')
  | [], [] => rfl
  | [], _ :: _ => rfl
  | _ :: _, [] => rfl
  | i :: l, j :: l' => by
    show ((i == j) && PyData.eqvAll (l.map PyData.int) (l'.map PyData.int)) = _
    rw [eqv_ints l l']
    by_cases h : i = j <;> by_cases h2 : l = l' <;> simp [h, h2]
theorem fuelD_eq : fuelD = 1000000 := rfl
theorem data_tup (S : Sto) (l : List Int) (h : l.length < 900000) : dataOf S (.tup (l.map IV.int)) = some (.tuple (l.map PyData.int)) := by
  have e : toD S fuelD (.tup (l.map IV.int)) = some (.tuple (l.map PyData.int)) := by
    rw [fuelD_eq]
    show (toDs S 999999 (l.map IV.int)).map PyData.tuple = _
    rw [toDs_ints S l 999999 (by omega)]
    rfl
  have s : SeqAt.shaped (.tuple (l.map PyData.int)) = true := by
    have h1 : PyData.canLay0 (.tuple (l.map PyData.int)) = true := lay_ints l
    have h2 : PyData.depth (.tuple (l.map PyData.int)) = 0 + 1 := congrArg (· + 1) (dep_ints l)
    show (PyData.canLay0 _ && decide (PyData.depth _ ≤ 64)) = true
    rw [h1, h2]
    rfl
  unfold dataOf
  rw [e]
  show (bif SeqAt.shaped _ then _ else _) = _
  rw [s]
  rfl
theorem data_lst (S : Sto) (n : Nat) (l : List Int) (g : S.get n = some (.lst (l.map IV.int))) (h : l.length < 900000) : dataOf S (.ref n) = some (.list (l.map PyData.int)) := by
  have e : toD S fuelD (.ref n) = some (.list (l.map PyData.int)) := by
    rw [fuelD_eq]
    show (match S.get n with | some (.lst xs) => (toDs S 999999 xs).map PyData.list | _ => none) = _
    rw [g]
    show (toDs S 999999 (l.map IV.int)).map PyData.list = _
    rw [toDs_ints S l 999999 (by omega)]
    rfl
  have s : SeqAt.shaped (.list (l.map PyData.int)) = true := by
    have h1 : PyData.canLay0 (.list (l.map PyData.int)) = true := lay_ints l
    have h2 : PyData.depth (.list (l.map PyData.int)) = 0 + 1 := congrArg (· + 1) (dep_ints l)
    show (PyData.canLay0 _ && decide (PyData.depth _ ≤ 64)) = true
    rw [h1, h2]
    rfl
  unfold dataOf
  rw [e]
  show (bif SeqAt.shaped _ then _ else _) = _
  rw [s]
  rfl
theorem eqIV_tup (S : Sto) (l l' : List Int) (h : l.length < 900000) (h' : l'.length < 900000) : eqIV S (.tup (l.map IV.int)) (.tup (l'.map IV.int)) = some (decide (l = l')) := by
  show (match dataOf S _, dataOf S _ with | some d, some e => some (PyData.eqv d e) | _, _ => none) = _
  rw [data_tup S l h, data_tup S l' h']
  show some (PyData.eqvAll _ _) = _
  rw [eqv_ints]
theorem eqIV_lst (S : Sto) (n m : Nat) (l l' : List Int) (g : S.get n = some (.lst (l.map IV.int))) (g' : S.get m = some (.lst (l'.map IV.int))) (h : l.length < 900000) (h' : l'.length < 900000) : eqIV S (.ref n) (.ref m) = some (decide (l = l')) := by
  show (match dataOf S _, dataOf S _ with | some d, some e => some (PyData.eqv d e) | _, _ => none) = _
  rw [data_lst S n l g h, data_lst S m l' g' h']
  show some (PyData.eqvAll _ _) = _
  rw [eqv_ints]
/-! ### ranges -/
theorem len_rangeI : ∀ (k : Nat) (i : Int), (rangeI i k).length = k
  | 0, _ => rfl
  | k + 1, i => congrArg (· + 1) (len_rangeI k (i + 1))
theorem mem_rangeI : ∀ (k : Nat) (i : Int) (x : IV), x ∈ rangeI i k → ∃ m : Nat, x = .int (i + m) ∧ m < k
  | k + 1, i, x, h => by
    rcases List.mem_cons.mp h with rfl | h
    · exact ⟨0, by simp, by omega⟩
    · obtain ⟨m, rfl, hm⟩ := mem_rangeI k (i + 1) x h
      exact ⟨m + 1, by congr 1; push_cast; omega, by omega⟩
theorem in62_of {n : Int} (h : -(2 ^ 60) < n) (h2 : n < 2 ^ 60) : in62 n = true := by
  unfold in62
  rw [Bool.and_eq_true]
  exact ⟨decide_eq_true (by omega), decide_eq_true (by omega)⟩
theorem mWk_range2 {m1 m2 : ME} {i j : Int} {E : Env'} {S S1 S2 : Sto} (h : m1 E S = .ok (.int i) S1) (h' : m2 E S1 = .ok (.int j) S2) (hi : -(2 ^ 60) < i) (hi2 : i < 2 ^ 60) (hj : -(2 ^ 60) < j) (hj2 : j < 2 ^ 60) :
    mWk fRange (mCons m1 (mCons m2 mNil)) E S = .ok (.items (rangeI i (j - i).toNat)) S2 := by
  have a := in62_of hi hi2
  have b := in62_of hj hj2
  unfold mWk
  simp only [mCons, mNil, h, h', R.bind, fRange, a, b, Bool.and_true, cond_true]
theorem mFor_wk {mi : MI} {tg : Tg} {b : MS} {N : Nat} {E : Env'} {S S1 : Sto} {k : Wk} (h : mi E S = .ok k S1) : mFor N mi tg b E S = mForGo tg b N k E S1 := by
  unfold mFor
  rw [h]
  rfl
theorem mLc_wk {mi : MI} {tg : Tg} {t : MT} {e : ME} {vs : List Nat} {N : Nat} {E : Env'} {S S1 : Sto} {xs : List IV} (g : IV → IV) (h : mi E S = .ok (.items xs) S1) (hN : xs.length < N) (hs : ∀ x ∈ xs, ∃ E1, bindT tg x (wipeE E vs) = some E1 ∧ t E1 S1 = .ok true S1 ∧ e E1 S1 = .ok (g x) S1) :
    mLc N mi tg t e vs E S = .ok (.ref S1.top) (S1.new (.lst (xs.map g))) := by
  unfold mLc
  rw [h]
  show R.bind (mLcGo tg t e N (.items xs) [] (wipeE E vs) S1) _ = _
  rw [lcGo_items g S1 xs N [] hN hs]
  rfl
theorem intsOf_map (l : List Int) : intsOf (l.map IV.int) = some l := by
  induction l with
  | nil => rfl
  | cons i l ih =>
    show (intsOf (l.map IV.int)).map (i :: ·) = _
    rw [ih]
    rfl
theorem bSum_lst {S : Sto} {n : Nat} {l : List Int} (g : S.get n = some (.lst (l.map IV.int))) : bSum [.ref n] S = .ok (.int l.sum) S := by
  show (match (match S.get n with | some (.lst xs) => intsOf xs | _ => none) with | some ns => R.ok (IV.int ns.sum) S | none => R.no) = _
  rw [g]
  show (match intsOf (l.map IV.int) with | some ns => R.ok (IV.int ns.sum) S | none => R.no) = _
  rw [intsOf_map]
theorem bTuple_lst {S : Sto} {n : Nat} {xs : List IV} (g : S.get n = some (.lst xs)) : bTuple [.ref n] S = .ok (.tup xs) S := by
  show (match (match S.get n with | some (.lst xs) => some xs | _ => none) with | some xs => R.ok (IV.tup xs) S | none => R.no) = _
  rw [g]
/-! ### steps -/
theorem mDef_nx {n : Nat} {b : MS} {as : List IV} {E E' : Env'} {S S' : Sto} (hE : as.map some ++ List.replicate (n - as.length) none = E) (h : b E S = .nx E' S') : mDef n b as S = .ok .non S' := by
  subst hE
  unfold mDef
  rw [h]
theorem mSet_ok {i : Nat} {m : ME} {E : Env'} {S S1 : Sto} {v : IV} (h : m E S = .ok v S1) : mSet i m E S = .nx (E.set i (some v)) S1 := by
  unfold mSet
  rw [h]
  rfl
theorem mRet_ok {m : ME} {E : Env'} {S S1 : Sto} {v : IV} (h : m E S = .ok v S1) : mRet m E S = .rt v S1 := by
  unfold mRet
  rw [h]
  rfl
theorem mDrop_ok {m : ME} {E : Env'} {S S1 : Sto} {v : IV} (h : m E S = .ok v S1) : mDrop m E S = .nx E S1 := by
  unfold mDrop
  rw [h]
  rfl
theorem mAsg_ok {b : Tg} {m : ME} {E E1 : Env'} {S S1 : Sto} {v : IV} (h : m E S = .ok v S1) (h1 : bindT b v E = some E1) : mAsg b m E S = .nx E1 S1 := by
  unfold mAsg
  rw [h]
  show (match bindT b v E with | some E' => Fl.nx E' S1 | none => Fl.no) = _
  rw [h1]
theorem mB_ok {f : MO} {ma mb : ME} {E : Env'} {S S1 S2 : Sto} {a b : IV} {r : R IV} (h : ma E S = .ok a S1) (h1 : mb E S1 = .ok b S2) (h2 : f a b S2 = r) : mB f ma mb E S = r := by
  unfold mB
  rw [h]
  show R.bind (mb E S1) _ = _
  rw [h1]
  exact h2
theorem mTB_ok {m : ME} {E : Env'} {S S1 : Sto} {c : Bool} (h : m E S = .ok (.bl c) S1) : mTB m E S = .ok c S1 := by
  unfold mTB
  rw [h]
  rfl
theorem mIfS_t {t : MT} {a b : MS} {E : Env'} {S S1 : Sto} (h : t E S = .ok true S1) : mIfS t a b E S = a E S1 := by
  unfold mIfS
  rw [h]
  rfl
theorem mIfS_f {t : MT} {a b : MS} {E : Env'} {S S1 : Sto} (h : t E S = .ok false S1) : mIfS t a b E S = b E S1 := by
  unfold mIfS
  rw [h]
  rfl
theorem mNil_ok {E : Env'} {S : Sto} : mNil E S = .ok [] S := rfl
theorem mCons_ok {m : ME} {ms : MA} {E : Env'} {S S1 S2 : Sto} {v : IV} {vs : List IV} (h : m E S = .ok v S1) (h1 : ms E S1 = .ok vs S2) : mCons m ms E S = .ok (v :: vs) S2 := by
  unfold mCons
  rw [h]
  show R.bind (ms E S1) _ = _
  rw [h1]
  rfl
theorem mCall_ok {f : MF} {ms : MA} {E : Env'} {S S1 : Sto} {vs : List IV} {r : R IV} (h : ms E S = .ok vs S1) (h1 : f vs S1 = r) : mCall f ms E S = r := by
  unfold mCall
  rw [h]
  exact h1
theorem mCallO_ok {f : MF} {ms : MA} {E : Env'} {S S1 : Sto} {vs : List IV} {r : R IV} (h : ms E S = .ok vs S1) (h1 : own f vs S1 = r) : mCallO f ms E S = r := by
  unfold mCallO
  rw [h]
  exact h1
theorem mOrT_t {t u : MT} {E : Env'} {S S1 : Sto} (h : t E S = .ok true S1) : mOrT t u E S = .ok true S1 := by
  unfold mOrT
  rw [h]
  rfl
theorem mOrT_f {t u : MT} {E : Env'} {S S1 : Sto} {r : R Bool} (h : t E S = .ok false S1) (h1 : u E S1 = r) : mOrT t u E S = r := by
  unfold mOrT
  rw [h]
  exact h1
theorem mAndT_f {t u : MT} {E : Env'} {S S1 : Sto} (h : t E S = .ok false S1) : mAndT t u E S = .ok false S1 := by
  unfold mAndT
  rw [h]
  rfl
theorem mAndT_t {t u : MT} {E : Env'} {S S1 : Sto} {r : R Bool} (h : t E S = .ok true S1) (h1 : u E S1 = r) : mAndT t u E S = r := by
  unfold mAndT
  rw [h]
  exact h1
theorem mNotT_ok {t : MT} {E : Env'} {S S1 : Sto} {c : Bool} (h : t E S = .ok c S1) : mNotT t E S = .ok (!c) S1 := by
  unfold mNotT
  rw [h]
  rfl
theorem mTru_bl {m : ME} {E : Env'} {S S1 : Sto} {c : Bool} (h : m E S = .ok (.bl c) S1) : mTru m E S = .ok c S1 := by
  unfold mTru
  rw [h]
  rfl
theorem mAndV_t {ma mb : ME} {E : Env'} {S S1 : Sto} {r : R IV} (h : ma E S = .ok (.bl true) S1) (h1 : mb E S1 = r) : mAndV ma mb E S = r := by
  unfold mAndV
  rw [h]
  exact h1
theorem mAndV_f {ma mb : ME} {E : Env'} {S S1 : Sto} (h : ma E S = .ok (.bl false) S1) : mAndV ma mb E S = .ok (.bl false) S1 := by
  unfold mAndV
  rw [h]
  rfl
theorem mSeq_rt {a b : MS} {E : Env'} {S S1 : Sto} {v : IV} (h : a E S = .rt v S1) : mSeq a b E S = .rt v S1 := by
  unfold mSeq
  rw [h]
theorem mTup_ok {ms : MA} {E : Env'} {S S1 : Sto} {vs : List IV} (h : ms E S = .ok vs S1) (hl : vs.length < 1000000) : mTup ms E S = .ok (.tup vs) S1 := by
  unfold mTup
  rw [h]
  have : fullLen vs.length = true := Nat.ble_eq.mpr (by omega)
  show (bif fullLen vs.length then _ else _) = _
  rw [this]
  rfl
theorem mLst_ok {ms : MA} {E : Env'} {S S1 : Sto} {vs : List IV} (h : ms E S = .ok vs S1) (hl : vs.length < 1000000) : mLst ms E S = .ok (.ref S1.top) (S1.new (.lst vs)) := by
  unfold mLst
  rw [h]
  have : fullLen vs.length = true := Nat.ble_eq.mpr (by omega)
  show (bif fullLen vs.length then _ else _) = _
  rw [this]
  rfl
theorem mPar_ok {i j : Nat} {ms : MA} {E : Env'} {S S1 : Sto} {v w : IV} (h : ms E S = .ok [v, w] S1) : mPar i j ms E S = .nx ((E.set i (some v)).set j (some w)) S1 := by
  unfold mPar
  rw [h]
  rfl
theorem mPar3_ok {i j l : Nat} {ms : MA} {E : Env'} {S S1 : Sto} {v w x : IV} (h : ms E S = .ok [v, w, x] S1) : mPar3 i j l ms E S = .nx (((E.set i (some v)).set j (some w)).set l (some x)) S1 := by
  unfold mPar3
  rw [h]
  rfl
theorem mIf_t {t : MT} {a b : ME} {E : Env'} {S S1 : Sto} {r : R IV} (h : t E S = .ok true S1) (h1 : a E S1 = r) : mIf t a b E S = r := by
  unfold mIf
  rw [h]
  exact h1
theorem mIf_f {t : MT} {a b : ME} {E : Env'} {S S1 : Sto} {r : R IV} (h : t E S = .ok false S1) (h1 : b E S1 = r) : mIf t a b E S = r := by
  unfold mIf
  rw [h]
  exact h1
theorem fEq_int {i j : Int} {S : Sto} : fEq (.int i) (.int j) S = .ok (.bl (decide (i = j))) S := rfl
theorem fNe_int {i j : Int} {S : Sto} : fNe (.int i) (.int j) S = .ok (.bl (!decide (i = j))) S := rfl
theorem Sto.get_top (S : Sto) : S.get S.top = none := by
  unfold Sto.get
  rw [if_neg (Nat.lt_irrefl _)]
end FX

set_option Elab.async false
set_option linter.all false
set_option maxRecDepth 100000
set_option maxHeartbeats 2000000
set_option autoImplicit false
/-! FP4: walks over a cell, membership, the dice in a law -/
namespace FX
open PySem PySem.Spec PyProof.Rows L2
theorem forGo_cell {tg : Tg} {b : MS} {n : Nat} {xs : List IV} (P : Nat → Env' → Sto → Prop) (hg : ∀ i E S, P i E S → S.get n = some (.lst xs))
    (hs : ∀ i x E S, xs[i]? = some x → P i E S → ∃ E1 E2 S2, bindT tg x E = some E1 ∧ b E1 S = .nx E2 S2 ∧ P (i + 1) E2 S2) :
    ∀ (k N i : Nat) (E : Env') (S : Sto), xs.length - i = k → i ≤ xs.length → k < N → P i E S → ∃ E' S', mForGo tg b N (.cell n i) E S = .nx E' S' ∧ P xs.length E' S' := by
  intro k
  induction k with
  | zero =>
    intro N i E S hk hi hN h
    cases N with
    | zero => omega
    | succ N =>
      refine ⟨E, S, ?_, by rw [show xs.length = i by omega]; exact h⟩
      have e : xs[i]? = none := List.getElem?_eq_none (by omega)
      unfold mForGo
      simp only [Wk.step, hg i E S h, e]
  | succ k ih =>
    intro N i E S hk hi hN h
    cases N with
    | zero => omega
    | succ N =>
      have hlt : i < xs.length := by omega
      have e : xs[i]? = some xs[i] := List.getElem?_eq_getElem hlt
      obtain ⟨E1, E2, S2, h1, h2, h3⟩ := hs i _ E S e h
      obtain ⟨E', S', h4, h5⟩ := ih N (i + 1) E2 S2 (by omega) hlt (by omega) h3
      refine ⟨E', S', ?_, h5⟩
      unfold mForGo
      simp only [Wk.step, hg i E S h, e, h1, h2]
      exact h4
theorem all_flat_ints : ∀ l : List Int, (l.map IV.int).all flatI = true
  | [] => rfl
  | i :: l => by
    show (true && (l.map IV.int).all flatI) = true
    rw [all_flat_ints l]
    rfl
theorem inV_ints (i : Int) : ∀ l : List Int, inV (.int i) ((l.map IV.int).map toVf) = decide (i ∈ l)
  | [] => rfl
  | j :: l => by
    show ((j == i) || inV (.int i) ((l.map IV.int).map toVf)) = _
    rw [inV_ints i l]
    by_cases h : j = i
    · subst h; simp
    · have h' : ¬ i = j := fun z => h z.symm
      simp [h, h']
theorem fIn_lst {S : Sto} {n : Nat} {l : List Int} {i : Int} (g : S.get n = some (.lst (l.map IV.int))) : fIn (.int i) (.ref n) S = .ok (.bl (decide (i ∈ l))) S := by
  have e : inIV S (.int i) (.ref n) = some (decide (i ∈ l)) := by
    unfold inIV
    have g' : itemsOf S (.ref n) = some (l.map IV.int) := by
      show (match S.get n with | some (.lst xs) => some xs | _ => none) = _
      rw [g]
    rw [g']
    show (bif (true && (l.map IV.int).all flatI) then some (inV (.int i) ((l.map IV.int).map toVf)) else _) = _
    rw [all_flat_ints, inV_ints]
    rfl
  unfold fIn
  rw [e]
theorem fAdd_lst {S : Sto} {n m : Nat} {xs ys : List IV} (g : S.get n = some (.lst xs)) (g' : S.get m = some (.lst ys)) (h : xs.length + ys.length < 1000000) : fAdd (.ref n) (.ref m) S = .ok (.ref S.top) (S.new (.lst (xs ++ ys))) := by
  show (match S.get n, S.get m with | some (.lst xs), some (.lst ys) => bif fullLen (xs.length + ys.length) then R.ok (IV.ref S.top) (S.new (.lst (xs ++ ys))) else R.no | _, _ => R.no) = _
  rw [g, g']
  have : fullLen (xs.length + ys.length) = true := Nat.ble_eq.mpr (by omega)
  show (bif fullLen (xs.length + ys.length) then _ else _) = _
  rw [this]
  rfl
theorem data_str (S : Sto) (x : Str) (h : PyData.canLay0 (.str x) = true) : dataOf S (.str x) = some (.str x) := by
  have e : toD S fuelD (.str x) = some (.str x) := by rw [fuelD_eq]; rfl
  have s : SeqAt.shaped (.str x) = true := by
    show (PyData.canLay0 _ && decide (PyData.depth _ ≤ 64)) = true
    rw [h]
    rfl
  unfold dataOf
  rw [e]
  show (bif SeqAt.shaped _ then _ else _) = _
  rw [s]
  rfl
theorem fNe_str {S : Sto} {x : Str} (h : PyData.canLay0 (.str x) = true) : fNe (.str x) (.str x) S = .ok (.bl false) S := by
  have e : eqIV S (.str x) (.str x) = some true := by
    show (match dataOf S _, dataOf S _ with | some d, some e => some (PyData.eqv d e) | _, _ => none) = _
    rw [data_str S x h]
    show some (x == x) = _
    simp
  unfold fNe
  rw [e]
  rfl
theorem repr_bool (b : Bool) (S : Sto) : bRepr [.bl b] S = .ok (.str (if b then "True" else "False")) S := rfl
theorem fNe_repr {S : Sto} (b : Bool) : fNe (.str (if b then "True" else "False")) (.str (if b then "True" else "False")) S = .ok (.bl false) S := by
  cases b
  · exact fNe_str (by decide +kernel)
  · exact fNe_str (by decide +kernel)
namespace Dice
theorem KeepBut.keep {n : Nat} {S S' : Sto} (h : KeepBut n S S') {i : Nat} {o : IO} (hi : i ≠ n) (g : S.get i = some o) : S'.get i = some o := h i o hi g
theorem own_dice (ns : List Int) (at_ : Nat) (S : Sto) (hl : ns.length ≤ 63) (ha : at_ ≤ 63) : ∃ S', own m__law_dice [.frz (ns.map IV.int), .int at_] S = .ok (.ref S.top) S' ∧ At S' S.top 0 ∧ Keep S S' ∧ S'.top = S.top + 1 := by
  obtain ⟨a, b, e, ha, hb, hc⟩ := dice_ok ns at_ ⟨0, []⟩ hl ha
  have hf : flatRs [IV.frz (ns.map IV.int), IV.int (at_ : Int)] = true := by
    show (flatRs (ns.map IV.int) && true) = true
    rw [flat_ints]
    rfl
  have ho := own_ref hf e S
  refine ⟨_, ho, ⟨a, b, 0, ?_, ‹0 ≤ a›, hb, hc, Int.le_refl 0, Int.le_refl 0⟩, fun i o g => ?_, rfl⟩
  · have := get_app_new (S := S) (S' := Sto.new ⟨0, []⟩ (.lst [.int a, .int b, .int 0])) rfl 0 (show 0 < 0 + 1 from Nat.one_pos)
    exact this
  · have := get_app (S := S) (S' := Sto.new ⟨0, []⟩ (.lst [.int a, .int b, .int 0])) rfl i (get_lt g)
    exact this.trans g
theorem own_roll {S : Sto} {n k : Nat} (t : Nat) (h : At S n k) (ht : 0 < t) (ht2 : t < 2 ^ 20) (hk : k < 1000) :
    ∃ (r : Nat) (S' : Sto), own m__law_roll [.ref n, .int t] S = .ok (.int r) S' ∧ r < t ∧ At S' n (k + 1) ∧ KeepBut n S S' ∧ S'.top = S.top := by
  obtain ⟨r, S', e, h1, h2, h3, h4, h5⟩ := roll_ok (t : Int) h (by omega) (by omega) (by omega)
  refine ⟨r.toNat, S', ?_, by omega, h3, h4, h5⟩
  rw [own_cell rfl, e, Int.toNat_of_nonneg h1]
theorem own_one_lst {S : Sto} {n m k : Nat} {xs : List IV} (h : At S n k) (hm : m ≠ n) (g : S.get m = some (.lst xs)) (hx : 0 < xs.length) (hx2 : xs.length < 1000) (hk : k < 1000) :
    ∃ v S', own m__law_one_of [.ref n, .ref m] S = .ok v S' ∧ v ∈ xs ∧ At S' n (k + 1) ∧ KeepBut n S S' ∧ S'.top = S.top := by
  obtain ⟨v, S', e, h1, h2, h3, h4⟩ := one_of_lst h hm g hx (by omega) (by omega)
  exact ⟨v, S', by rw [own_cell rfl, e], h1, h2, h3, h4⟩
theorem At.lt {S : Sto} {n k : Nat} (h : At S n k) : n < S.top := by
  obtain ⟨a, b, c, g, _⟩ := h
  exact get_lt g
theorem At.new {S : Sto} {n k : Nat} (h : At S n k) (o : IO) : At (S.new o) n k := h.keep (Keep.new S o)
end Dice
end FX

set_option Elab.async false
set_option linter.all false
set_option maxRecDepth 100000
set_option maxHeartbeats 2000000
set_option autoImplicit false
/-! FP5: exponents of any integer -/
namespace FX
open PySem PySem.Spec PyProof.Rows L2
theorem mAug_ok {i : Nat} {f : MO} {m : ME} {E : Env'} {S S1 S2 : Sto} {v b w : IV} (hv : E[i]? = some (some v)) (h : m E S = .ok b S1) (h1 : f v b S1 = .ok w S2) : mAug i f m E S = .nx (E.set i (some w)) S2 := by
  unfold mAug
  rw [hv]
  show R.to (m E S) E _ = _
  rw [h]
  show R.to (f v b S1) E _ = _
  rw [h1]
  rfl
namespace Ar
theorem emod_natAbs (m : Int) (p : Nat) : m % (p : Int) = 0 ↔ m.natAbs % p = 0 := by
  rw [← Int.dvd_iff_emod_eq_zero, ← Nat.dvd_iff_mod_eq_zero]
  exact ⟨fun h => by have := Int.natAbs_dvd_natAbs.mpr h; simpa using this, fun h => Int.natAbs_dvd_natAbs.mp (by simpa using h)⟩
theorem ediv_natAbs {m : Int} {p : Nat} (hp : 0 < p) (h : m % (p : Int) = 0) : (m / (p : Int)).natAbs = m.natAbs / p ∧ (m ≠ 0 → m / (p : Int) ≠ 0) := by
  obtain ⟨c, rfl⟩ := Int.dvd_of_emod_eq_zero h
  have hpz : (p : Int) ≠ 0 := by omega
  rw [Int.mul_ediv_cancel_left _ hpz, Int.natAbs_mul, Int.natAbs_natCast, Nat.mul_div_cancel_left _ hp]
  exact ⟨rfl, fun h z => h (by rw [z, Int.mul_zero])⟩
theorem fmod_int (m : Int) (p : Nat) (hp : 0 < p) (S : Sto) : fMod (.int m) (.int p) S = .ok (.int (m % (p : Int))) S := by
  show okI (!decide ((p : Int) = 0)) (m.fmod p) S = _
  rw [decide_eq_false (by omega), Int.fmod_eq_emod_of_nonneg _ (by omega)]
  rfl
theorem exp_int (p : Nat) (n : Int) (S : Sto) (hp : 2 ≤ p) (hn : n ≠ 0) (hM : n.natAbs.log2 < 40000) (hp2 : p < 2 ^ 20) : m_exponent_in [.int p, .int n] S = .ok (.int (expo p n.natAbs : Nat)) S := by
  have key := while_inv (t := mTB (mB fEq (mB fMod (mV 1) (mV 0)) (mC (.int 0)))) (b := mSeq (mAug 1 fDivS (mV 0)) (mAug 2 fAddI (mC (.int 1))))
    (fun k E S' => ∃ (m : Int) (v : Nat) (vi : Int), vi = v ∧ E = [some (.int p), some (.int m), some (.int vi)] ∧ S' = S ∧ m ≠ 0 ∧ m.natAbs < 2 ^ k ∧ v + expoF k p m.natAbs = expo p n.natAbs)
    (fun E S' => S' = S ∧ ∃ m : Int, E = [some (.int p), some (.int m), some (.int (expo p n.natAbs : Nat))]) ?_ 100000 (n.natAbs.log2 + 1) [some (.int p), some (.int n), some (.int 0)] S (by omega)
    ⟨n, 0, 0, rfl, rfl, rfl, hn, (Nat.log2_lt (by omega)).mp (Nat.lt_succ_self _), Nat.zero_add _⟩
  · obtain ⟨E', S', e, rfl, m, rfl⟩ := key
    refine mDef_rt (E := [some (.int p), some (.int n), none]) rfl ?_
    unfold b_exponent_in
    refine (mSeq_nx (E1 := [some (.int p), some (.int n), some (.int 0)]) (S1 := S') rfl).trans ?_
    rw [mSeq_nx e]
    rfl
  · rintro k E S' ⟨m, v, vi, rfl, rfl, rfl, hm, hk, hv⟩
    have ht : mTB (mB fEq (mB fMod (mV 1) (mV 0)) (mC (.int 0))) [some (.int p), some (.int m), some (.int v)] S' = .ok (decide (m % (p : Int) = 0)) S' :=
      mTB_ok (mB_ok (mB_ok rfl rfl (fmod_int m p (by omega) S')) rfl fEq_int)
    cases k with
    | zero => exact absurd hk (by omega)
    | succ k =>
      by_cases h0 : m % (p : Int) = 0
      · right
        obtain ⟨d1, d2⟩ := ediv_natAbs (by omega) h0
        have hN := (emod_natAbs m p).mp h0
        have hdf : divFit (p : Int) = true := divFit_of (a := 20) (by omega) hp2 (by omega)
        have hD : fDivS (.int m) (.int p) S' = .ok (.int (m / (p : Int))) S' := by
          show okI (decide ((0 : Int) < p) && decide ((p : Int) < 1073741824)) _ S' = _
          rw [decide_eq_true (by omega), decide_eq_true (by omega)]
          rfl
        refine ⟨S', [some (.int p), some (.int (m / (p : Int))), some (.int ((v : Int) + 1))], S', k, by rw [ht, decide_eq_true h0], ?_, Nat.lt_succ_self k, m / (p : Int), v + 1, _, by omega, rfl, rfl, d2 hm, ?_, ?_⟩
        · refine (mSeq_nx (mAug_ok rfl rfl hD)).trans ?_
          exact mAug_ok rfl rfl rfl
        · rw [d1]
          have h5 : m.natAbs / p ≤ m.natAbs / 2 := Nat.div_le_div_left hp (by decide)
          rw [Nat.pow_succ] at hk
          omega
        · rw [← hv, d1]
          show v + 1 + expoF k p (m.natAbs / p) = v + (if m.natAbs % p = 0 then expoF k p (m.natAbs / p) + 1 else 0)
          rw [if_pos hN]
          omega
      · left
        refine ⟨S', by rw [ht, decide_eq_false h0], rfl, m, ?_⟩
        have : v = expo p n.natAbs := by
          rw [← hv]
          show v = v + (if m.natAbs % p = 0 then expoF k p (m.natAbs / p) + 1 else 0)
          rw [if_neg fun z => h0 ((emod_natAbs m p).mpr z)]
          rfl
        rw [this]
theorem lexp_int (p : Nat) (n : Int) (S : Sto) (hp : 2 ≤ p) (hn : n ≠ 0) (hM : n.natAbs.log2 < 40000) (hp2 : p < 2 ^ 20) : m__law_exponent [.int p, .int n] S = .ok (.int (expo p n.natAbs : Nat)) S := by
  have key := while_inv (t := mTB (mB fEq (mB fMod (mV 3) (mV 0)) (mC (.int 0)))) (b := mPar 3 2 (mCons (mB fDiv (mV 3) (mV 0)) (mCons (mB fAdd (mV 2) (mC (.int 1))) mNil)))
    (fun k E S' => ∃ (m : Int) (v : Nat) (vi : Int), vi = v ∧ E = [some (.int p), some (.int n), some (.int vi), some (.int m)] ∧ S' = S ∧ m ≠ 0 ∧ m.natAbs < 2 ^ k ∧ v + expoF k p m.natAbs = expo p n.natAbs)
    (fun E S' => S' = S ∧ ∃ m : Int, E = [some (.int p), some (.int n), some (.int (expo p n.natAbs : Nat)), some (.int m)]) ?_ 100000 (n.natAbs.log2 + 1) [some (.int p), some (.int n), some (.int 0), some (.int n)] S (by omega)
    ⟨n, 0, 0, rfl, rfl, rfl, hn, (Nat.log2_lt (by omega)).mp (Nat.lt_succ_self _), Nat.zero_add _⟩
  · obtain ⟨E', S', e, rfl, m, rfl⟩ := key
    refine mDef_rt (E := [some (.int p), some (.int n), none, none]) rfl ?_
    unfold b__law_exponent
    refine (mSeq_nx (E1 := [some (.int p), some (.int n), some (.int 0), some (.int n)]) (S1 := S') rfl).trans ?_
    rw [mSeq_nx e]
    rfl
  · rintro k E S' ⟨m, v, vi, rfl, rfl, rfl, hm, hk, hv⟩
    have ht : mTB (mB fEq (mB fMod (mV 3) (mV 0)) (mC (.int 0))) [some (.int p), some (.int n), some (.int v), some (.int m)] S' = .ok (decide (m % (p : Int) = 0)) S' :=
      mTB_ok (mB_ok (mB_ok rfl rfl (fmod_int m p (by omega) S')) rfl fEq_int)
    cases k with
    | zero => exact absurd hk (by omega)
    | succ k =>
      by_cases h0 : m % (p : Int) = 0
      · right
        obtain ⟨d1, d2⟩ := ediv_natAbs (by omega) h0
        have hN := (emod_natAbs m p).mp h0
        have hdf : divFit (p : Int) = true := divFit_of (a := 20) (by omega) hp2 (by omega)
        have hD : fDiv (.int m) (.int p) S' = .ok (.int (m / (p : Int))) S' := by
          show (bif divFit (p : Int) then _ else _) = _
          rw [hdf]
          rfl
        refine ⟨S', [some (.int p), some (.int n), some (.int ((v : Int) + 1)), some (.int (m / (p : Int)))], S', k, by rw [ht, decide_eq_true h0], ?_, Nat.lt_succ_self k, m / (p : Int), v + 1, _, by omega, rfl, rfl, d2 hm, ?_, ?_⟩
        · exact mPar_ok (mCons_ok (mB_ok rfl rfl hD) (mCons_ok rfl mNil_ok))
        · rw [d1]
          have h5 : m.natAbs / p ≤ m.natAbs / 2 := Nat.div_le_div_left hp (by decide)
          rw [Nat.pow_succ] at hk
          omega
        · rw [← hv, d1]
          show v + 1 + expoF k p (m.natAbs / p) = v + (if m.natAbs % p = 0 then expoF k p (m.natAbs / p) + 1 else 0)
          rw [if_pos hN]
          omega
      · left
        refine ⟨S', by rw [ht, decide_eq_false h0], rfl, m, ?_⟩
        have : v = expo p n.natAbs := by
          rw [← hv]
          show v = v + (if m.natAbs % p = 0 then expoF k p (m.natAbs / p) + 1 else 0)
          rw [if_neg fun z => h0 ((emod_natAbs m p).mpr z)]
          rfl
        rw [this]
/-- what the exponent is -/
theorem expoF_spec {p : Nat} (hp : 2 ≤ p) : ∀ (k n : Nat), n ≠ 0 → n < 2 ^ k → ∃ u, n = p ^ expoF k p n * u ∧ u % p ≠ 0
  | 0, n, h0, h => absurd h (by omega)
  | k + 1, n, h0, h => by
    unfold expoF
    by_cases hd : n % p = 0
    · rw [if_pos hd]
      have hdm := Nat.div_add_mod n p
      rw [hd, Nat.add_zero] at hdm
      have hq0 : n / p ≠ 0 := fun z => h0 (by rw [← hdm, z, Nat.mul_zero])
      have hq : n / p < 2 ^ k := by
        have h5 : n / p ≤ n / 2 := Nat.div_le_div_left hp (by decide)
        rw [Nat.pow_succ] at h
        omega
      obtain ⟨u, h1, h2⟩ := expoF_spec hp k (n / p) hq0 hq
      refine ⟨u, ?_, h2⟩
      rw [Nat.pow_succ, Nat.mul_comm _ p, Nat.mul_assoc, ← h1, hdm]
    · rw [if_neg hd]
      exact ⟨n, by simp, hd⟩
theorem expo_spec {p n : Nat} (hp : 2 ≤ p) (h0 : n ≠ 0) : ∃ u, n = p ^ expo p n * u ∧ u % p ≠ 0 :=
  expoF_spec hp _ n h0 ((Nat.log2_lt h0).mp (Nat.lt_succ_self _))
end Ar
end FX

set_option Elab.async false
set_option linter.all false
set_option maxRecDepth 100000
set_option maxHeartbeats 2000000
set_option autoImplicit false
/-! FP6: inverses modulo a number -/
namespace FX
open PySem PySem.Spec PyProof.Rows L2
namespace Ar
theorem dvd_sub_emod (x M : Int) : M ∣ x - x % M := ⟨x / M, by have := Int.mul_ediv_add_emod x M; omega⟩
theorem opp_abs (x y f : Int) (hf : 0 ≤ f) (h : x * y ≤ 0) : (x - f * y).natAbs = x.natAbs + f.natAbs * y.natAbs ∧ y * (x - f * y) ≤ 0 := by
  rw [← Int.natAbs_mul]
  rcases Int.lt_trichotomy y 0 with hy | hy | hy
  · have hx : 0 ≤ x := by
      rcases Int.lt_or_le x 0 with z | z
      · have := Int.mul_pos_of_neg_of_neg z hy
        omega
      · exact z
    have hw : 0 ≤ f * (-y) := Int.mul_nonneg hf (by omega)
    rw [Int.mul_neg] at hw
    have h2 : 0 ≤ (-y) * (x - f * y) := Int.mul_nonneg (by omega) (by omega)
    rw [Int.neg_mul] at h2
    generalize f * y = w at *
    exact ⟨by omega, by omega⟩
  · subst hy
    simp
  · have hx : x ≤ 0 := by
      rcases Int.lt_or_le 0 x with z | z
      · have := Int.mul_pos z hy
        omega
      · exact z
    have hw : 0 ≤ f * y := Int.mul_nonneg hf (by omega)
    have h2 : 0 ≤ y * (-(x - f * y)) := Int.mul_nonneg (by omega) (by omega)
    rw [Int.mul_neg] at h2
    generalize f * y = w at *
    exact ⟨by omega, by omega⟩
def uT : MT := mTB (mB fNe (mV 3) (mC (.int 0)))
def uB : MS := mSeq (mSet 6 (mB fDiv (mV 2) (mV 3)))
    (mAsg (.tup [(.name 2), (.name 3), (.name 4), (.name 5)]) (mTup (mCons (mV 3) (mCons (mB fSub (mV 2) (mB fMul (mV 6) (mV 3))) (mCons (mV 5) (mCons (mB fSub (mV 4) (mB fMul (mV 6) (mV 5))) mNil))))))
def b_undone_in : MS :=
  (mSeq (mAsg (.tup [(.name 2), (.name 3), (.name 4), (.name 5)]) (mTup (mCons (mB fMod (mV 0) (mV 1)) (mCons (mV 1) (mCons (mC (.int 1)) (mCons (mC (.int 0)) mNil))))))
    (mSeq (mWhile uT uB 100000)
    (mRet (mB fMod (mV 4) (mV 1)))))
def m_undone_in : MF := mDef 7 b_undone_in
def Eu (n M a b x y : Int) (z : Option IV) : Env' := [some (.int n), some (.int M), some (.int a), some (.int b), some (.int x), some (.int y), z]
theorem uB_ok (n M a b x y f : Int) (z : Option IV) (S : Sto) (hd : fDiv (.int a) (.int b) S = .ok (.int f) S) (m1 : mulFit f b = true) (m2 : mulFit f y = true) :
    uB (Eu n M a b x y z) S = .nx (Eu n M b (a - f * b) y (x - f * y) (some (.int f))) S := by
  have h1 : fMul (.int f) (.int b) S = .ok (.int (f * b)) S := by
    show okI (mulFit f b) _ S = _
    rw [m1]
    rfl
  have h2 : fMul (.int f) (.int y) S = .ok (.int (f * y)) S := by
    show okI (mulFit f y) _ S = _
    rw [m2]
    rfl
  unfold uB
  refine (mSeq_nx (E1 := Eu n M a b x y (some (.int f))) (mSet_ok (mB_ok rfl rfl hd))).trans ?_
  exact mAsg_ok (mTup_ok (mCons_ok rfl (mCons_ok (mB_ok rfl (mB_ok rfl rfl h1) rfl) (mCons_ok rfl (mCons_ok (mB_ok rfl (mB_ok rfl rfl h2) rfl) mNil_ok)))) (show 4 < 1000000 by decide)) rfl
theorem undone_ok (n : Int) (M m : Nat) (S : Sto) (hM : 1 ≤ M) (hm : M < 2 ^ m) (hm2 : m < 8000) (hg : Nat.gcd (n % (M : Int)).toNat M = 1) :
    ∃ r : Nat, m_undone_in [.int n, .int M] S = .ok (.int r) S ∧ r < M ∧ (M : Int) ∣ (r : Int) * n - 1 := by
  have hMz : (M : Int) ≠ 0 := by omega
  have ha0 : 0 ≤ n % (M : Int) := Int.emod_nonneg _ hMz
  have ha1 : n % (M : Int) < M := Int.emod_lt_of_pos _ (by omega)
  have key := while_inv (t := uT) (b := uB)
    (fun k E S' => ∃ (a b : Nat) (x y : Int) (z : Option IV), E = Eu n M a b x y z ∧ S' = S ∧ Nat.gcd a b = 1 ∧ (M : Int) ∣ x * n - a ∧ (M : Int) ∣ y * n - b ∧ x.natAbs * b + y.natAbs * a = M ∧ x * y ≤ 0 ∧ x.natAbs ≤ M ∧ y.natAbs ≤ M ∧ a ≤ M ∧ b ≤ M ∧ ((b ≤ a ∧ a * b < 2 ^ k) ∨ ∃ k', k = k' + 1 ∧ a * b < 2 ^ k'))
    (fun E S' => S' = S ∧ ∃ (b x y : Int) (z : Option IV), E = Eu n M 1 b x y z ∧ (M : Int) ∣ x * n - 1) ?_ 100000 (2 * m + 1)
    (Eu n M (n % (M : Int)) M 1 0 none) S (by omega)
    ⟨(n % (M : Int)).toNat, M, 1, 0, none, by rw [Int.toNat_of_nonneg ha0], rfl, hg, ?_, ?_, by simp, by decide, by simpa using hM, by simp, by omega, Nat.le_refl _, .inr ⟨2 * m, rfl, ?_⟩⟩
  · obtain ⟨E', S', e, rfl, b, x, y, z, rfl, hx⟩ := key
    have hr0 : 0 ≤ x % (M : Int) := Int.emod_nonneg _ hMz
    have hr1 : x % (M : Int) < M := Int.emod_lt_of_pos _ (by omega)
    refine ⟨(x % (M : Int)).toNat, ?_, by omega, ?_⟩
    · refine mDef_rt (E := [some (.int n), some (.int M), none, none, none, none, none]) rfl ?_
      unfold b_undone_in
      refine (mSeq_nx (E1 := Eu n M (n % (M : Int)) M 1 0 none) (S1 := S') (mAsg_ok (mTup_ok (mCons_ok (mB_ok rfl rfl (fmod_int n M (by omega) S')) (mCons_ok rfl (mCons_ok rfl (mCons_ok rfl mNil_ok)))) (show 4 < 1000000 by decide)) rfl)).trans ?_
      rw [mSeq_nx e, Int.toNat_of_nonneg hr0]
      exact mRet_ok (mB_ok rfl rfl (fmod_int x M (by omega) S'))
    · rw [Int.toNat_of_nonneg hr0]
      have h1 : (M : Int) ∣ x - x % (M : Int) := dvd_sub_emod _ _
      have h2 : x % (M : Int) * n - 1 = (x * n - 1) - (x - x % (M : Int)) * n := by
        rw [Int.sub_mul]
        omega
      rw [h2]
      exact Int.dvd_sub hx (Int.dvd_mul_of_dvd_left h1)
  · rintro k E S' ⟨a, b, x, y, z, rfl, rfl, g, hx, hy, hd, hs, hxM, hyM, haM, hbM, hk⟩
    have ht : uT (Eu n M a b x y z) S' = .ok (!decide ((b : Int) = 0)) S' := mTB_ok (mB_ok rfl rfl fNe_int)
    by_cases hb : b = 0
    · subst hb
      left
      rw [Nat.gcd_zero_right] at g
      subst g
      exact ⟨S', ht, rfl, _, x, y, z, rfl, hx⟩
    · right
      have hb1 : 1 ≤ b := by omega
      have hfa : a / b ≤ a := Nat.div_le_self _ _
      have hD : fDiv (.int a) (.int b) S' = .ok (.int ((a / b : Nat) : Int)) S' := by
        show (bif divFit (b : Int) then _ else _) = _
        rw [divFit_of (a := m) (by omega) (Nat.lt_of_le_of_lt hbM hm) (by omega)]
        rfl
      have m1 : mulFit ((a / b : Nat) : Int) (b : Int) = true := mulFit_of (a := m) (b := m) (show a / b < 2 ^ m by omega) (show b < 2 ^ m by omega) (by omega)
      have m2 : mulFit ((a / b : Nat) : Int) y = true := mulFit_of (a := m) (b := m) (show a / b < 2 ^ m by omega) (by omega) (by omega)
      have hdm := Nat.div_add_mod a b
      have hmod : (a : Int) - ((a / b : Nat) : Int) * (b : Int) = ((a % b : Nat) : Int) := by
        have : (a : Int) = (b : Int) * ((a / b : Nat) : Int) + ((a % b : Nat) : Int) := by
          rw [← Int.natCast_mul, ← Int.natCast_add, hdm]
        rw [Int.mul_comm]
        omega
      have hst := uB_ok n M a b x y _ z S' hD m1 m2
      rw [hmod] at hst
      have hr := Nat.mod_lt a hb1
      have hg' : Nat.gcd b (a % b) = 1 := by rw [← g, Nat.gcd_comm a b, Nat.gcd_rec b a, Nat.gcd_comm]
      have hy' : (M : Int) ∣ (x - ((a / b : Nat) : Int) * y) * n - ((a % b : Nat) : Int) := by
        have e : (x - ((a / b : Nat) : Int) * y) * n - ((a % b : Nat) : Int) = (x * n - a) - ((a / b : Nat) : Int) * (y * n - b) := by
          rw [← hmod, Int.sub_mul, Int.mul_sub, Int.mul_assoc]
          omega
        rw [e]
        exact Int.dvd_sub hx (Int.dvd_mul_of_dvd_right hy)
      have habs : (x - ((a / b : Nat) : Int) * y).natAbs = x.natAbs + a / b * y.natAbs := (opp_abs x y _ (Int.natCast_nonneg _) hs).1
      have hd' : y.natAbs * (a % b) + (x - ((a / b : Nat) : Int) * y).natAbs * b = M := by
        rw [habs, ← hd]
        have : y.natAbs * a = y.natAbs * (a % b) + a / b * y.natAbs * b := by
          conv => lhs; rw [← hdm]
          rw [Nat.mul_add, Nat.mul_comm b, Nat.mul_comm (a / b) y.natAbs, Nat.mul_assoc]
          omega
        rw [this, Nat.add_mul]
        omega
      have hs' : y * (x - ((a / b : Nat) : Int) * y) ≤ 0 := (opp_abs x y _ (Int.natCast_nonneg _) hs).2
      have hyb : (x - ((a / b : Nat) : Int) * y).natAbs ≤ M := by
        have := Nat.le_mul_of_pos_right (x - ((a / b : Nat) : Int) * y).natAbs hb1
        omega
      have hres : ∃ k', k' < k ∧ (a % b ≤ b ∧ b * (a % b) < 2 ^ k') := by
        rcases hk with ⟨h1, h2⟩ | ⟨k', rfl, h2⟩
        · have h3 : 2 * (a % b) < a := by
            have hq : 1 ≤ a / b := Nat.div_pos h1 hb1
            have : b * 1 ≤ b * (a / b) := Nat.mul_le_mul_left b hq
            omega
          cases k with
          | zero =>
            have : 1 ≤ a * b := Nat.mul_pos (by omega) hb1
            omega
          | succ k =>
            refine ⟨k, Nat.lt_succ_self k, by omega, ?_⟩
            have h4 : b * (2 * (a % b)) < b * a := Nat.mul_lt_mul_of_pos_left h3 hb1
            rw [Nat.mul_comm a b, Nat.pow_succ] at h2
            have h5 : b * (2 * (a % b)) = b * (a % b) * 2 := by rw [Nat.mul_comm 2, Nat.mul_assoc]
            omega
        · refine ⟨k', Nat.lt_succ_self k', by omega, ?_⟩
          refine Nat.lt_of_le_of_lt ?_ h2
          rw [Nat.mul_comm a b]
          exact Nat.mul_le_mul_left _ (Nat.mod_le a b)
      obtain ⟨k', hk1, hk2⟩ := hres
      exact ⟨S', _, S', k', by rw [ht, decide_eq_false (by omega)]; rfl, hst, hk1, b, a % b, y, _, _, rfl, rfl, hg', hy, hy', hd', hs', hyM, hyb, hbM, by omega, .inl hk2⟩
  · have e : (1 : Int) * n - ((n % (M : Int)).toNat : Int) = n - n % (M : Int) := by rw [Int.one_mul, Int.toNat_of_nonneg ha0]
    rw [e]
    exact dvd_sub_emod _ _
  · rw [Int.zero_mul, Int.zero_sub]
    exact Int.dvd_neg.mpr (Int.dvd_refl _)
  · rw [Nat.two_mul, Nat.pow_add]
    exact Nat.mul_lt_mul'' (by omega) hm
end Ar
end FX

set_option Elab.async false
set_option linter.all false
set_option maxRecDepth 100000
set_option maxHeartbeats 2000000
set_option autoImplicit false
/-! FP7: digits -/
namespace FX
open PySem PySem.Spec PyProof.Rows L2
theorem mMet_app {m1 m2 : ME} {E : Env'} {S S1 S2 : Sto} {n : Nat} {xs : List IV} {v : IV} (h1 : m1 E S = .ok (.ref n) S1) (h2 : m2 E S1 = .ok v S2) (g1 : ∃ ys, S1.get n = some (.lst ys)) (g : S2.get n = some (.lst xs)) (hl : xs.length < 1000000) :
    mMet fAppend m1 (mCons m2 mNil) E S = .ok .non (S2.put n (.lst (xs ++ [v]))) := by
  obtain ⟨ys, g1⟩ := g1
  have ht : tyOf S1 (.ref n) = some .list := by
    show (match S1.get n with | some (.lst _) => some FX.BT.list | _ => none) = _
    rw [g1]
  unfold mMet
  rw [h1]
  show (match tyOf S1 (.ref n) with | some .list => R.bind (mCons m2 mNil E S1) (fun as S2 => fAppend (.ref n) as S2) | _ => R.no) = _
  rw [ht]
  show R.bind (mCons m2 mNil E S1) _ = _
  rw [mCons_ok h2 mNil_ok]
  show (match S2.get n with | some (.lst xs) => bif Nat.blt xs.length 16777216 then R.ok IV.non (S2.put n (.lst (xs ++ [v]))) else R.no | _ => R.no) = _
  rw [g]
  have : Nat.blt xs.length 16777216 = true := Nat.ble_eq.mpr (by omega)
  show (bif Nat.blt xs.length 16777216 then _ else _) = _
  rw [this]
  rfl
theorem mMet_dropped {m : ME} {E : Env'} {S S1 : Sto} {v : IV} (h : m E S = .ok v S1) : mDrop m E S = .nx E S1 := mDrop_ok h
namespace Ar
def digs (p : Nat) : Nat → Nat → List Nat
  | 0, _ => []
  | k + 1, r => r % p :: digs p k (r / p)
theorem digs_len (p : Nat) : ∀ k r, (digs p k r).length = k
  | 0, _ => rfl
  | k + 1, r => congrArg (· + 1) (digs_len p k (r / p))
theorem digs_lt {p : Nat} (hp : 0 < p) : ∀ k r d, d ∈ digs p k r → d < p
  | k + 1, r, d, h => by
    rcases List.mem_cons.mp h with rfl | h
    · exact Nat.mod_lt _ hp
    · exact digs_lt hp k _ d h
/-- Horner's sum, the least digit first -/
def horner (p : Nat) : List Nat → Nat
  | [] => 0
  | d :: r => d + p * horner p r
theorem horner_digs {p : Nat} : ∀ k r, r < p ^ k → horner p (digs p k r) = r
  | 0, r, h => by
    have : r = 0 := by simpa using h
    rw [this]
    rfl
  | k + 1, r, h => by
    show r % p + p * horner p (digs p k (r / p)) = r
    rw [horner_digs k (r / p) (Nat.div_lt_of_lt_mul (by rw [Nat.mul_comm, ← Nat.pow_succ]; exact h)), Nat.add_comm]
    exact Nat.div_add_mod r p
def b_integer_digits : MS :=
  (mSeq (mPar 3 4 (mCons (mLst mNil) (mCons (mV 1) mNil)))
    (mSeq (mFor 1000000 (mWk fRange (mCons (mV 2) mNil)) (.name 5) (mSeq (mDrop (mMet fAppend (mV 3) (mCons (mB fMod (mV 4) (mV 0)) mNil)))
    (mAug 4 fDivS (mV 0))))
    (mRet (mCall bTuple (mCons (mV 3) mNil)))))
def m_integer_digits : MF := mDef 6 b_integer_digits
theorem digits_ok (p r many : Nat) (hp : 2 ≤ p) (hp2 : p < 2 ^ 20) (hm : many < 1000) : ∃ S', m_integer_digits [.int p, .int r, .int many] ⟨0, []⟩ = .ok (.tup ((digs p many r).map fun d : Nat => IV.int (d : Int))) S' := by
  let S0 : Sto := ⟨0, []⟩
  have key := forGo_items (tg := .name 5) (b := mSeq (mDrop (mMet fAppend (mV 3) (mCons (mB fMod (mV 4) (mV 0)) mNil))) (mAug 4 fDivS (mV 0)))
    (fun w E S' => ∃ (acc : List Nat) (left : Nat) (x : Option IV), E = [some (.int p), some (.int r), some (.int many), some (.ref 0), some (.int left), x] ∧ S'.get 0 = some (.lst (acc.map fun d : Nat => IV.int (d : Int))) ∧ acc ++ digs p w.length left = digs p many r)
    ?_ (rangeI 0 many) 1000000 [some (.int p), some (.int r), some (.int many), some (.ref 0), some (.int r), none] (S0.new (.lst [])) (by rw [len_rangeI]; omega)
    ⟨[], r, none, rfl, get_new S0 _, by rw [len_rangeI]; rfl⟩
  · obtain ⟨E', S', e, acc, left, x, rfl, g, h⟩ := key
    have hacc : acc = digs p many r := by
      rw [← h]
      exact (List.append_nil acc).symm
    subst hacc
    refine ⟨S', mDef_rt (E := [some (.int p), some (.int r), some (.int many), none, none, none]) rfl ?_⟩
    unfold b_integer_digits
    generalize 1000000 = N at e ⊢
    refine (mSeq_nx (E1 := [some (.int p), some (.int r), some (.int many), some (.ref 0), some (.int r), none]) (S1 := S0.new (.lst [])) (mPar_ok (mCons_ok rfl (mCons_ok rfl mNil_ok)))).trans ?_
    refine (mSeq_nx ((mFor_range1 (n := many) rfl (by omega)).trans e)).trans ?_
    exact mRet_ok (mCall_ok (mCons_ok rfl mNil_ok) (bTuple_lst g))
  · rintro v w E S' ⟨acc, left, x, rfl, g, h⟩
    have hl : acc.length < 1000 := by
      have := congrArg List.length h
      rw [List.length_append, digs_len, digs_len] at this
      simp at this
      omega
    have hmod : fMod (.int left) (.int p) S' = .ok (.int ((left % p : Nat) : Int)) S' := fmod_int left p (by omega) S'
    have hdiv : ∀ S : Sto, fDivS (.int left) (.int p) S = .ok (.int ((left / p : Nat) : Int)) S := fun S => by
      show okI (decide ((0 : Int) < p) && decide ((p : Int) < 1073741824)) _ S = _
      rw [decide_eq_true (by omega), decide_eq_true (by omega)]
      rfl
    refine ⟨_, _, _, rfl, (mSeq_nx (mDrop_ok (mMet_app rfl (mB_ok rfl rfl hmod) ⟨_, g⟩ g (by rw [List.length_map]; omega)))).trans (mAug_ok rfl rfl (hdiv _)), acc ++ [left % p], left / p, some v, rfl, ?_, ?_⟩
    · rw [get_put g, List.map_append]
      rfl
    · rw [← h, List.append_assoc]
      rfl
def b_summed_digits : MS :=
  (mSeq (mSet 2 (mC (.int 0)))
    (mSeq (mFor 1000000 (mSeqW (mU fRev (mV 1))) (.name 3) (mSet 2 (mB fAdd (mB fMul (mV 2) (mV 0)) (mV 3))))
    (mRet (mV 2))))
def m_summed_digits : MF := mDef 4 b_summed_digits
theorem summed_ok (p M : Nat) (ds : List Nat) (S : Sto) (hp : 1 ≤ p) (hp2 : p < 2 ^ 20) (hh : horner p ds < 2 ^ M) (hM : M < 100000) (hl : ds.length < 100000) : m_summed_digits [.int p, .tup (ds.map fun d : Nat => IV.int (d : Int))] S = .ok (.int (horner p ds : Nat)) S := by
  have hsplit : ∀ (a b : List Nat), horner p (a ++ b) = horner p a + p ^ a.length * horner p b := by
    intro a
    induction a with
    | nil => intro b; simp [horner]
    | cons d a ih =>
      intro b
      show d + p * horner p (a ++ b) = d + p * horner p a + p ^ (a.length + 1) * horner p b
      rw [ih, Nat.mul_add, Nat.pow_succ, Nat.mul_comm (p ^ a.length) p, Nat.mul_assoc, Nat.add_assoc]
  have key := forGo_items (tg := .name 3) (b := mSet 2 (mB fAdd (mB fMul (mV 2) (mV 0)) (mV 3)))
    (fun w E S' => ∃ (left done : List Nat) (f : Nat) (fi : Int) (x : Option IV), ds = left.reverse ++ done ∧ w = left.map (fun d : Nat => IV.int (d : Int)) ∧ f = horner p done ∧ fi = f ∧ E = [some (.int p), some (.tup (ds.map fun d : Nat => IV.int (d : Int))), some (.int fi), x] ∧ S' = S)
    ?_ (ds.reverse.map fun d : Nat => IV.int (d : Int)) 1000000 [some (.int p), some (.tup (ds.map fun d : Nat => IV.int (d : Int))), some (.int 0), none] S (by rw [List.length_map, List.length_reverse]; omega)
    ⟨ds.reverse, [], 0, 0, none, by simp, rfl, rfl, rfl, rfl, rfl⟩
  · obtain ⟨E', S', e, left, done, f, fi, x, h1, h2, rfl, rfl, rfl, rfl⟩ := key
    have hl0 : left = [] := List.map_eq_nil_iff.mp h2.symm
    subst hl0
    have h1' : ds = done := by simpa using h1
    subst h1'
    refine mDef_rt (E := [some (.int p), some (.tup (ds.map fun d : Nat => IV.int (d : Int))), none, none]) rfl ?_
    unfold b_summed_digits
    generalize 1000000 = N at e ⊢
    refine (mSeq_nx (E1 := [some (.int p), some (.tup (ds.map fun d : Nat => IV.int (d : Int))), some (.int 0), none]) (S1 := S') rfl).trans ?_
    have hw : mSeqW (mU fRev (mV 1)) [some (.int p), some (.tup (ds.map fun d : Nat => IV.int (d : Int))), some (.int 0), none] S' = .ok (.items (ds.reverse.map fun d : Nat => IV.int (d : Int))) S' := by
      rw [List.map_reverse]
      rfl
    refine (mSeq_nx ((mFor_wk hw).trans e)).trans ?_
    rfl
  · rintro v w E S' ⟨left, done, f, fi, x, h1, h2, rfl, rfl, rfl, rfl⟩
    cases left with
    | nil => cases h2
    | cons d left =>
      injection h2 with hv hw
      subst hv
      have h1' : ds = left.reverse ++ (d :: done) := by rw [h1, List.reverse_cons, List.append_assoc]; rfl
      have hle : horner p done < 2 ^ M := by
        have e1 := hsplit (left.reverse ++ [d]) done
        have e2 : ds = (left.reverse ++ [d]) ++ done := by rw [h1', List.append_assoc]; rfl
        rw [← e2] at e1
        have h3 : horner p done ≤ p ^ (left.reverse ++ [d]).length * horner p done := Nat.le_mul_of_pos_left _ (Nat.pow_pos hp)
        omega
      have m : mulFit ((horner p done : Nat) : Int) (p : Int) = true := mulFit_of (a := M) (b := 20) hle hp2 (by omega)
      refine ⟨_, [some (.int p), some (.tup (ds.map fun d : Nat => IV.int (d : Int))), some (.int ((horner p done : Nat) * (p : Int) + (d : Int))), some (.int (d : Int))], S', rfl, ?_, left, d :: done, d + p * horner p done, _, some (.int (d : Int)), h1', hw, rfl, ?_, rfl, rfl⟩
      · have hm : fMul (.int (horner p done : Nat)) (.int p) S' = .ok (.int ((horner p done : Nat) * (p : Int))) S' := by
          show okI (mulFit _ _) _ S' = _
          rw [m]
          rfl
        exact mSet_ok (mB_ok (mB_ok rfl rfl hm) rfl rfl)
      · rw [Int.natCast_add, Int.natCast_mul, Int.mul_comm, Int.add_comm]
end Ar
end FX

set_option Elab.async false
set_option linter.all false
set_option maxRecDepth 100000
set_option maxHeartbeats 2000000
set_option autoImplicit false
/-! FP8: integers and ratios told apart -/
namespace FX
open PySem PySem.Spec PyProof.Rows L2
theorem mOrV_t {ma mb : ME} {E : Env'} {S S1 : Sto} (h : ma E S = .ok (.bl true) S1) : mOrV ma mb E S = .ok (.bl true) S1 := by
  unfold mOrV
  rw [h]
  rfl
theorem mOrV_f {ma mb : ME} {E : Env'} {S S1 : Sto} {r : R IV} (h : ma E S = .ok (.bl false) S1) (h1 : mb E S1 = r) : mOrV ma mb E S = r := by
  unfold mOrV
  rw [h]
  exact h1
theorem mChain_t {f g : MO} {ma mb mc : ME} {E : Env'} {S S1 S2 S3 S4 : Sto} {a b c : IV} {r : R IV} (h1 : ma E S = .ok a S1) (h2 : mb E S1 = .ok b S2) (h3 : f a b S2 = .ok (.bl true) S3) (h4 : mc E S3 = .ok c S4) (h5 : g b c S4 = r) : mChain f g ma mb mc E S = r := by
  unfold mChain
  rw [h1]
  show R.bind (mb E S1) _ = _
  rw [h2]
  show R.bind (f a b S2) _ = _
  rw [h3]
  show R.bind (mc E S3) _ = _
  rw [h4]
  exact h5
theorem mChain_f {f g : MO} {ma mb mc : ME} {E : Env'} {S S1 S2 S3 : Sto} {a b : IV} (h1 : ma E S = .ok a S1) (h2 : mb E S1 = .ok b S2) (h3 : f a b S2 = .ok (.bl false) S3) : mChain f g ma mb mc E S = .ok (.bl false) S3 := by
  unfold mChain
  rw [h1]
  show R.bind (mb E S1) _ = _
  rw [h2]
  show R.bind (f a b S2) _ = _
  rw [h3]
  rfl
namespace Ar
def b_is_whole_number : MS :=
  (mRet (mAndV (mCall bIsI (mCons (mV 0) (mCons (mC (.ty .int)) mNil))) (mU fNotV (mCall bIsI (mCons (mV 0) (mCons (mC (.ty .bool)) mNil))))))
def m_is_whole_number : MF := mDef 1 b_is_whole_number
def b_is_integer : MS :=
  (mRet (mAndV (mCallO m_is_whole_number (mCons (mV 0) mNil)) (mChain fLt fLt (mU fNeg (mC (.int (1000000000000000000000000000000000000000000000000000000000000)))) (mV 0) (mC (.int (1000000000000000000000000000000000000000000000000000000000000))))))
def m_is_integer : MF := mDef 1 b_is_integer
def b_is_within : MS :=
  (mRet (mAndV (mCallO m_is_whole_number (mCons (mV 0) mNil)) (mChain fLe fLe (mV 1) (mV 0) (mV 2))))
def m_is_within : MF := mDef 3 b_is_within
def b_is_ratio_any : MS :=
  (mSeq (mIfS (mOrT (mNotT (mTru (mCall bIsI (mCons (mV 0) (mCons (mC (.ty .tuple)) mNil))))) (mOrT (mTB (mB fNe (mCall bLen (mCons (mV 0) mNil)) (mC (.int (2))))) (mNotT (mTru (mCall bAll (mCons (mLc 1000000 (mSeqW (mV 0)) (.name 1) mYes (mCallO m_is_whole_number (mCons (mV 1) mNil)) [1]) mNil)))))) (mRet (mC (.bl false))) mSkip)
    (mRet (mAndV (mB fGt (mB fIx (mV 0) (mC (.int 1))) (mC (.int 0))) (mB fEq (mCall bGcd (mCons (mB fIx (mV 0) (mC (.int 0))) (mCons (mB fIx (mV 0) (mC (.int 1))) mNil))) (mC (.int 1))))))
def m_is_ratio_any : MF := mDef 2 b_is_ratio_any
def b_is_number_in : MS :=
  (mRet (mOrV (mCallO m_is_integer (mCons (mV 0) mNil)) (mAndV (mCallO m_is_ratio_any (mCons (mV 0) mNil)) (mCall bAll (mCons (mLc 1000000 (mSeqW (mV 0)) (.name 1) mYes (mCallO m_is_integer (mCons (mV 1) mNil)) [1]) mNil)))))
def m_is_number_in : MF := mDef 2 b_is_number_in
theorem whole_int (i : Int) (S : Sto) : own m_is_whole_number [.int i] S = .ok (.bl true) S := own_flat (S' := ⟨0, []⟩) rfl rfl rfl S
theorem whole_tup (xs : List IV) (hx : flatRs xs = true) (S : Sto) : own m_is_whole_number [.tup xs] S = .ok (.bl false) S := own_flat (S' := ⟨0, []⟩) (by show (flatRs xs && true) = true; rw [hx]; rfl) rfl rfl S
theorem integer_int (i : Int) (h : i.natAbs < 10 ^ 60) (S : Sto) : m_is_integer [.int i] S = .ok (.bl true) S := by
  have h1 : -(1000000000000000000000000000000000000000000000000000000000000 : Int) < i := by omega
  have h2 : i < (1000000000000000000000000000000000000000000000000000000000000 : Int) := by omega
  refine mDef_rt (E := [some (.int i)]) rfl ?_
  unfold b_is_integer
  generalize (1000000000000000000000000000000000000000000000000000000000000 : Int) = big at *
  refine mRet_ok (mAndV_t (mCallO_ok (mCons_ok rfl mNil_ok) (whole_int i S)) (mChain_t (a := .int (-big)) (S3 := S) (S4 := S) rfl rfl ?_ rfl ?_))
  · show R.ok (IV.bl (decide (-big < i))) S = _
    rw [decide_eq_true h1]
  · show R.ok (IV.bl (decide (i < big))) S = _
    rw [decide_eq_true h2]
theorem integer_tup (xs : List IV) (hx : flatRs xs = true) (S : Sto) : m_is_integer [.tup xs] S = .ok (.bl false) S := by
  refine mDef_rt (E := [some (.tup xs)]) rfl ?_
  unfold b_is_integer
  exact mRet_ok (mAndV_f (mCallO_ok (mCons_ok rfl mNil_ok) (whole_tup xs hx S)))
theorem within_ok (i lo hi : Int) (h1 : lo ≤ i) (h2 : i ≤ hi) (S : Sto) : m_is_within [.int i, .int lo, .int hi] S = .ok (.bl true) S := by
  refine mDef_rt (E := [some (.int i), some (.int lo), some (.int hi)]) rfl ?_
  unfold b_is_within
  refine mRet_ok (mAndV_t (mCallO_ok (vs := [.int i]) (mCons_ok rfl mNil_ok) (whole_int i S)) (mChain_t (S3 := S) (S4 := S) rfl rfl ?_ rfl ?_))
  · show R.ok (IV.bl (decide (lo ≤ i))) S = _
    rw [decide_eq_true h1]
  · show R.ok (IV.bl (decide (i ≤ hi))) S = _
    rw [decide_eq_true h2]
theorem bAll_two (S : Sto) (n : Nat) (g : S.get n = some (.lst [.bl true, .bl true])) : bAll [.ref n] S = .ok (.bl true) S := by
  show (match (match S.get n with | some (.lst xs) => blsOf xs | _ => none) with | some ns => R.ok (IV.bl (ns.all id)) S | none => R.no) = _
  rw [g]
  rfl
theorem all_two {f : MF} {a b : IV} {x0 : IV} {S : Sto} {N : Nat} (hN : 2 < N) (ha : ∀ S, own f [a] S = .ok (.bl true) S) (hb : ∀ S, own f [b] S = .ok (.bl true) S) :
    ∃ S', mCall bAll (mCons (mLc N (mSeqW (mV 0)) (.name 1) mYes (mCallO f (mCons (mV 1) mNil)) [1]) mNil) [some (.tup [a, b]), none] S = .ok (.bl true) S' := by
  have hl := mLc_wk (tg := .name 1) (t := mYes) (e := mCallO f (mCons (mV 1) mNil)) (vs := [1]) (N := N) (E := [some (.tup [a, b]), none]) (S := S) (S1 := S) (xs := [a, b]) (mi := mSeqW (mV 0)) (fun _ => .bl true) rfl hN ?_
  · exact ⟨_, mCall_ok (mCons_ok hl mNil_ok) (bAll_two _ _ (get_new S _))⟩
  · intro x hx
    simp only [List.mem_cons, List.not_mem_nil, or_false] at hx
    rcases hx with rfl | rfl
    · exact ⟨[some (.tup [x, b]), some x], rfl, rfl, mCallO_ok (mCons_ok rfl mNil_ok) (ha S)⟩
    · exact ⟨[some (.tup [a, x]), some x], rfl, rfl, mCallO_ok (mCons_ok rfl mNil_ok) (hb S)⟩
theorem ratio_any_ok (a : Int) (b : Nat) (hb : 0 < b) (hg : Nat.gcd a.natAbs b = 1) (S : Sto) : ∃ S', m_is_ratio_any [.tup [.int a, .int b]] S = .ok (.bl true) S' := by
  obtain ⟨S1, h1⟩ := all_two (f := m_is_whole_number) (a := .int a) (b := .int b) (x0 := .non) (S := S) (N := 1000000) (by decide) (whole_int a) (whole_int b)
  refine ⟨S1, mDef_rt (E := [some (.tup [.int a, .int b]), none]) rfl ?_⟩
  unfold b_is_ratio_any
  generalize 1000000 = N at h1 ⊢
  refine (mSeq_nx (mIfS_f (mOrT_f (mNotT_ok (c := true) (mTru_bl rfl)) (mOrT_f (mTB_ok rfl) (mNotT_ok (c := true) (mTru_bl h1)))))).trans ?_
  have hgt : fGt (.int b) (.int 0) S1 = .ok (.bl true) S1 := by
    show R.ok (IV.bl (decide ((0 : Int) < b))) S1 = _
    rw [decide_eq_true (by omega)]
  have hgc : bGcd [.int a, .int b] S1 = .ok (.int (1 : Nat)) S1 := by
    show R.ok (IV.int ((Nat.gcd a.natAbs (b : Int).natAbs : Nat) : Int)) S1 = _
    rw [Int.natAbs_natCast, hg]
  exact mRet_ok (mAndV_t (mB_ok (mB_ok rfl rfl rfl) rfl hgt) (mB_ok (mCall_ok (mCons_ok (mB_ok rfl rfl rfl) (mCons_ok (mB_ok rfl rfl rfl) mNil_ok)) hgc) rfl fEq_int))
theorem number_int (i : Int) (h : i.natAbs < 10 ^ 60) (S : Sto) : m_is_number_in [.int i] S = .ok (.bl true) S := by
  refine mDef_rt (E := [some (.int i), none]) rfl ?_
  unfold b_is_number_in
  exact mRet_ok (mOrV_t (mCallO_ok (mCons_ok rfl mNil_ok) (own_flat rfl (integer_int i h ⟨0, []⟩) rfl S)))
theorem number_tup (a : Int) (b : Nat) (hb : 0 < b) (hg : Nat.gcd a.natAbs b = 1) (hA : a.natAbs < 10 ^ 60) (hB : b < 10 ^ 60) (S : Sto) : ∃ S', m_is_number_in [.tup [.int a, .int b]] S = .ok (.bl true) S' := by
  obtain ⟨Sr, hr⟩ := ratio_any_ok a b hb hg ⟨0, []⟩
  obtain ⟨S1, h1⟩ := all_two (f := m_is_integer) (a := .int a) (b := .int b) (x0 := .non) (S := S) (N := 1000000) (by decide) (fun S => own_flat rfl (integer_int a hA ⟨0, []⟩) rfl S) (fun S => own_flat rfl (integer_int b (by rw [Int.natAbs_natCast]; exact hB) ⟨0, []⟩) rfl S)
  refine ⟨S1, mDef_rt (E := [some (.tup [.int a, .int b]), none]) rfl ?_⟩
  unfold b_is_number_in
  generalize 1000000 = N at h1 ⊢
  exact mRet_ok (mOrV_f (mCallO_ok (vs := [.tup [.int a, .int b]]) (mCons_ok rfl mNil_ok) (own_flat rfl (integer_tup [.int a, .int b] rfl ⟨0, []⟩) rfl S)) (mAndV_t (mCallO_ok (vs := [.tup [.int a, .int b]]) (mCons_ok rfl mNil_ok) (own_flat rfl hr rfl S)) h1))
end Ar
end FX

set_option Elab.async false
set_option linter.all false
set_option maxRecDepth 100000
set_option maxHeartbeats 2000000
set_option autoImplicit false
/-! FP9: comprehensions that find nothing, sums of digits -/
namespace FX
open PySem PySem.Spec PyProof.Rows L2
theorem lcGo_no {tg : Tg} {t : MT} {e : ME} {E : Env'} (S : Sto)
    : ∀ (xs : List IV) (n : Nat) (acc : List IV), xs.length < n → (∀ x ∈ xs, ∃ E1, bindT tg x E = some E1 ∧ t E1 S = .ok false S) → mLcGo tg t e n (.items xs) acc E S = .ok acc.reverse S
  | [], n + 1, acc, _, _ => by
    unfold mLcGo
    simp [Wk.step]
  | x :: r, n + 1, acc, hn, h => by
    obtain ⟨E1, h1, h2⟩ := h x (List.mem_cons_self ..)
    unfold mLcGo
    simp only [Wk.step, h1, h2]
    exact lcGo_no S r n acc (Nat.lt_of_succ_lt_succ hn) fun y hy => h y (List.mem_cons_of_mem _ hy)
theorem mLc_no {mi : MI} {tg : Tg} {t : MT} {e : ME} {vs : List Nat} {N : Nat} {E : Env'} {S S1 : Sto} {xs : List IV} (h : mi E S = .ok (.items xs) S1) (hN : xs.length < N) (hs : ∀ x ∈ xs, ∃ E1, bindT tg x (wipeE E vs) = some E1 ∧ t E1 S1 = .ok false S1) :
    mLc N mi tg t e vs E S = .ok (.ref S1.top) (S1.new (.lst [])) := by
  unfold mLc
  rw [h]
  show R.bind (mLcGo tg t e N (.items xs) [] (wipeE E vs) S1) _ = _
  rw [lcGo_no S1 xs N [] hN hs]
  rfl
namespace Ar
/-- sum of d * p ^ i -/
def wsum (p : Nat) : Nat → List Nat → Nat
  | _, [] => 0
  | i, d :: r => d * p ^ i + wsum p (i + 1) r
theorem wsum_horner (p : Nat) : ∀ (ds : List Nat) (i : Nat), wsum p i ds = p ^ i * horner p ds
  | [], i => by simp [wsum, horner]
  | d :: r, i => by
    show d * p ^ i + wsum p (i + 1) r = p ^ i * (d + p * horner p r)
    rw [wsum_horner p r (i + 1), Nat.mul_add, Nat.pow_succ, Nat.mul_comm d, Nat.mul_assoc]
end Ar
end FX

set_option Elab.async false
set_option linter.all false
set_option maxRecDepth 100000
set_option maxHeartbeats 2000000
set_option autoImplicit false
/-! FP10: lowest terms of any integers -/
namespace FX
open PySem PySem.Spec PyProof.Rows L2
namespace Ar
theorem lowest_int (x : Int) (y M : Nat) (S : Sto) (hx : x.natAbs < 2 ^ M) (hy : y < 2 ^ M) (hp : 0 < y) (hM : M < 8000) : m__law_lowest [.int x, .int y] S = .ok (.tup [.int (x / ((Nat.gcd x.natAbs y : Nat) : Int)), .int ((y / Nat.gcd x.natAbs y : Nat) : Int)]) S := by
  have hg := lgcd_ok x y M ⟨0, []⟩ hx (by rw [Int.natAbs_natCast]; exact hy) (by omega)
  have hg2 := own_flat (as := [.int x, .int y]) rfl hg rfl S
  have hgp : 0 < Nat.gcd x.natAbs y := Nat.gcd_pos_of_pos_right _ hp
  have hgl : Nat.gcd x.natAbs y < 2 ^ M := Nat.lt_of_le_of_lt (Nat.gcd_le_right _ hp) hy
  have hd : divFit ((Nat.gcd x.natAbs y : Nat) : Int) = true := divFit_of (a := M) (by omega) (by simpa using hgl) (by omega)
  have hn : ¬ ((y : Int) < 0) := by omega
  simp only [Int.natAbs_natCast] at hg2
  generalize hgg : Nat.gcd x.natAbs y = g at *
  rw [← div_cast]
  generalize (g : Int) = gi at *
  generalize (y : Int) = yi at *
  have fl : fullLen 2 = true := by decide
  simp [m__law_lowest, b__law_lowest, mDef, mSeq, mSet, mCallO, mCons, mNil, mV, mC, R.bind, R.to, hg2, mIfS, mTB, mB, fCmpI, hn, mSkip, mRet, mTup, fDiv, hd, fl]
end Ar
end FX

set_option Elab.async false
set_option linter.all false
set_option maxRecDepth 100000
set_option maxHeartbeats 2000000
set_option autoImplicit false
/-! FP11: digits of ratios come again -/
namespace FX
open PySem
namespace Ar
theorem digs_get (p : Nat) : ∀ (n r k : Nat), k < n → (digs p n r)[k]? = some (r / p ^ k % p)
  | n + 1, r, 0, _ => by simp [digs]
  | n + 1, r, k + 1, h => by
    show (digs p n (r / p))[k]? = _
    rw [digs_get p n (r / p) k (by omega), Nat.div_div_eq_div_mul, Nat.pow_succ, Nat.mul_comm]
theorem icop {b : Nat} {x y : Int} (h : (b : Int) ∣ x * y) (hc : Nat.Coprime b x.natAbs) : (b : Int) ∣ y := by
  have h1 : b ∣ (x * y).natAbs := Int.ofNat_dvd_left.mp h
  rw [Int.natAbs_mul] at h1
  exact Int.ofNat_dvd_left.mpr (hc.dvd_of_dvd_mul_left h1)
theorem small_dvd {b : Nat} {x : Int} (h : (b : Int) ∣ x) (h1 : -(b : Int) < x) (h2 : x < b) : x = 0 := by
  obtain ⟨c, rfl⟩ := h
  by_cases hc : 1 ≤ c
  · have := Int.mul_le_mul_of_nonneg_left hc (show (0 : Int) ≤ b by omega)
    omega
  · by_cases hc2 : c ≤ -1
    · have := Int.mul_le_mul_of_nonneg_left hc2 (show (0 : Int) ≤ b by omega)
      omega
    · rw [show c = 0 by omega, Int.mul_zero]
/-- the tail of a ratio behind k digits -/
theorem tail_of {p r b : Nat} {a : Int} {k : Nat} (hp : 2 ≤ p) (hb : 1 < b) (hab : Nat.Coprime b a.natAbs) (hr : ((p ^ (k + 1) : Nat) : Int) ∣ (r : Int) * b - a) (ha : a.natAbs < p ^ k) :
    ∃ s : Int, s * ((p ^ k : Nat) : Int) = a - b * ((r % p ^ k : Nat) : Int) ∧ -(b : Int) < s ∧ s < 0 ∧ (p : Int) ∣ s - b * ((r / p ^ k % p : Nat) : Int) := by
  have hM : 0 < p ^ k := Nat.pow_pos (by omega)
  have hR : r % p ^ k < p ^ k := Nat.mod_lt _ hM
  have e1 : r = p ^ k * (r / p ^ k) + r % p ^ k := (Nat.div_add_mod r (p ^ k)).symm
  have e2 : r / p ^ k = p * (r / p ^ k / p) + r / p ^ k % p := (Nat.div_add_mod _ p).symm
  rw [Nat.pow_succ] at hr
  generalize hq : r / p ^ k = q at *
  generalize hqq : q / p = q' at *
  generalize hd : q % p = d at *
  generalize hRR : r % p ^ k = R at *
  generalize p ^ k = M at *
  obtain ⟨c, hc⟩ := hr
  have e3 : (r : Int) = M * (p * q' + d) + R := by rw [e1, e2]; push_cast; rfl
  rw [e3] at hc
  push_cast at hc
  have hs : a - (b : Int) * R = ((b : Int) * d + p * ((q' : Int) * b - c)) * M := by grind
  refine ⟨(b : Int) * d + p * ((q' : Int) * b - c), hs.symm, ?_, ?_, ⟨(q' : Int) * b - c, by omega⟩⟩
  · have h0 : ¬ (b : Int) ∣ (b : Int) * d + p * ((q' : Int) * b - c) := fun ⟨z, hz⟩ => by
      have h1 : (b : Int) ∣ a := ⟨R + z * M, by grind⟩
      have h2 := Int.ofNat_dvd_left.mp h1
      have h3 := Nat.Coprime.eq_one_of_dvd hab h2
      omega
    generalize (b : Int) * d + p * ((q' : Int) * b - c) = s at *
    by_cases hlt : -(b : Int) < s
    · exact hlt
    · exfalso
      have hle : s ≤ -(b : Int) - 1 := by
        have : s ≠ -(b : Int) := fun z => h0 ⟨-1, by omega⟩
        omega
      have h1 := Int.mul_le_mul_of_nonneg_right hle (show (0 : Int) ≤ M by omega)
      have h2 := Int.mul_le_mul_of_nonneg_left (show (R : Int) ≤ M - 1 by omega) (show (0 : Int) ≤ b by omega)
      have h3 : (-(b : Int) - 1) * M = -((b : Int) * M) - M := by grind
      have h4 : (b : Int) * (M - 1) = (b : Int) * M - b := by grind
      omega
  · have h0 : ¬ (b : Int) ∣ (b : Int) * d + p * ((q' : Int) * b - c) := fun ⟨z, hz⟩ => by
      have h1 : (b : Int) ∣ a := ⟨R + z * M, by grind⟩
      have h2 := Int.ofNat_dvd_left.mp h1
      have h3 := Nat.Coprime.eq_one_of_dvd hab h2
      omega
    generalize (b : Int) * d + p * ((q' : Int) * b - c) = s at *
    by_cases hlt : s < 0
    · exact hlt
    · exfalso
      have hle : 1 ≤ s := by
        have : s ≠ 0 := fun z => h0 ⟨0, by omega⟩
        omega
      have h1 := Int.mul_le_mul_of_nonneg_right hle (show (0 : Int) ≤ M by omega)
      have h2 := Int.mul_nonneg (show (0 : Int) ≤ b by omega) (show (0 : Int) ≤ R by omega)
      omega
theorem again {p r b turn k L : Nat} {a : Int} (hp : 2 ≤ p) (hb : 1 < b) (hbp : Nat.Coprime b p) (hab : Nat.Coprime b a.natAbs) (hr : ((p ^ L : Nat) : Int) ∣ (r : Int) * b - a) (ha : a.natAbs < p ^ k) (ht : p ^ turn % b = 1) (hL : k + turn < L) :
    r / p ^ k % p = r / p ^ (k + turn) % p := by
  have dv : ∀ j, j ≤ L → ((p ^ j : Nat) : Int) ∣ (r : Int) * b - a := fun j hj => Int.dvd_trans (Int.ofNat_dvd.mpr (Nat.pow_dvd_pow p hj)) hr
  obtain ⟨s, s1, s2, s3, s4⟩ := tail_of hp hb hab (dv (k + 1) (by omega)) ha
  have ha2 : a.natAbs < p ^ (k + turn) := Nat.lt_of_lt_of_le ha (Nat.pow_le_pow_right (by omega) (by omega))
  obtain ⟨t, t1, t2, t3, t4⟩ := tail_of hp hb hab (dv (k + turn + 1) (by omega)) ha2
  have hst : s = t := by
    have h1 : (b : Int) ∣ ((p ^ k : Nat) : Int) * (t - s) := by
      have e : p ^ turn = b * (p ^ turn / b) + 1 := by rw [← ht]; exact (Nat.div_add_mod _ b).symm
      clear t4 s4 hr dv ha ha2 ht
      generalize r % p ^ (k + turn) = R2 at t1
      generalize r % p ^ k = R1 at s1
      rw [Nat.pow_add, e] at t1
      generalize p ^ turn / b = z at t1
      generalize p ^ k = M at *
      push_cast at t1
      exact ⟨(R1 : Int) - R2 - t * M * z, by grind⟩
    have h2 : (b : Int) ∣ t - s := icop h1 (by rw [Int.natAbs_natCast]; exact Nat.Coprime.pow_right k hbp)
    have := small_dvd h2 (by omega) (by omega)
    omega
  subst hst
  have h3 : (p : Int) ∣ (b : Int) * ((r / p ^ k % p : Nat) - (r / p ^ (k + turn) % p : Nat)) := by
    obtain ⟨c, hc⟩ := s4
    obtain ⟨d, hd⟩ := t4
    exact ⟨d - c, by rw [Int.mul_sub, Int.mul_sub, ← hc, ← hd]; omega⟩
  have h4 := icop h3 (by rw [Int.natAbs_natCast]; exact hbp.symm)
  have h5 : r / p ^ k % p < p := Nat.mod_lt _ (by omega)
  have h6 : r / p ^ (k + turn) % p < p := Nat.mod_lt _ (by omega)
  have := small_dvd h4 (by omega) (by omega)
  omega
end Ar
end FX

set_option Elab.async false
set_option linter.all false
set_option maxRecDepth 100000
set_option maxHeartbeats 2000000
set_option autoImplicit false
/-! FP12: values of polynomials, derivatives, near roots -/
namespace FX
open PySem
namespace Ar
/-- the value of a row of numbers at x -/
def pv : List Int → Int → Int
  | [], _ => 0
  | a :: l, x => a + x * pv l x
/-- the row of the products of numbers and places -/
def dl : Nat → List Int → List Int
  | _, [] => []
  | k, a :: l => (a * (k : Int)) :: dl (k + 1) l
/-- the value of the derivative -/
def dv : List Int → Int → Int
  | [], _ => 0
  | _ :: l, x => pv l x + x * dv l x
theorem pv_dl (x : Int) : ∀ (l : List Int) (k : Nat), pv (dl k l) x = k * pv l x + x * dv l x
  | [], k => by simp [pv, dl, dv]
  | a :: l, k => by
    show a * (k : Int) + x * pv (dl (k + 1) l) x = k * (a + x * pv l x) + x * (pv l x + x * dv l x)
    rw [pv_dl x l (k + 1)]
    push_cast
    grind
theorem dl_len : ∀ (l : List Int) (k : Nat), (dl k l).length = l.length
  | [], _ => rfl
  | _ :: l, k => congrArg (· + 1) (dl_len l (k + 1))
/-- the derivative's row -/
def sl (l : List Int) : List Int := (dl 0 l).drop 1
theorem sl_cons (a : Int) (l : List Int) : sl (a :: l) = dl 1 l := rfl
theorem pv_sl (x : Int) : ∀ l, pv (sl l) x = dv l x
  | [] => rfl
  | a :: l => by rw [sl_cons, pv_dl]; show _ = pv l x + x * dv l x; simp
theorem taylor (x h : Int) : ∀ l, ∃ G, pv l (x + h) = pv l x + h * dv l x + h * h * G
  | [] => ⟨0, by simp [pv, dv]⟩
  | a :: l => by
    obtain ⟨G, e⟩ := taylor x h l
    refine ⟨dv l x + (x + h) * G, ?_⟩
    show a + (x + h) * pv l (x + h) = a + x * pv l x + h * (pv l x + x * dv l x) + _
    rw [e]; grind
theorem taylor1 (x h : Int) (l : List Int) : ∃ G, pv l (x + h) = pv l x + h * G := by
  obtain ⟨G, e⟩ := taylor x h l
  exact ⟨dv l x + h * G, by rw [e]; grind⟩
theorem dtaylor (x h : Int) : ∀ l, ∃ G, dv l (x + h) = dv l x + h * G
  | [] => ⟨0, by simp [dv]⟩
  | a :: l => by
    obtain ⟨G, e⟩ := dtaylor x h l
    obtain ⟨G', e'⟩ := taylor1 x h l
    refine ⟨G' + dv l x + (x + h) * G, ?_⟩
    show pv l (x + h) + (x + h) * dv l (x + h) = pv l x + x * dv l x + _
    rw [e, e']; grind
/-- how great values are -/
theorem pv_bound (x : Int) (A B : Nat) (hx : x.natAbs ≤ B) : ∀ l : List Int, (∀ a ∈ l, a.natAbs ≤ A) → (pv l x).natAbs ≤ A * (B + 1) ^ l.length
  | [], _ => by simp [pv]
  | a :: l, h => by
    have ih := pv_bound x A B hx l fun b hb => h b (List.mem_cons_of_mem _ hb)
    have ha := h a (List.mem_cons_self ..)
    show (a + x * pv l x).natAbs ≤ A * (B + 1) ^ (l.length + 1)
    have h1 : (a + x * pv l x).natAbs ≤ a.natAbs + x.natAbs * (pv l x).natAbs := by
      rw [← Int.natAbs_mul]; exact Int.natAbs_add_le ..
    have h2 : x.natAbs * (pv l x).natAbs ≤ B * (A * (B + 1) ^ l.length) := Nat.mul_le_mul hx ih
    have h3 : 1 ≤ (B + 1) ^ l.length := Nat.pow_pos (by omega)
    have h4 : A * 1 ≤ A * (B + 1) ^ l.length := Nat.mul_le_mul_left _ h3
    rw [Nat.pow_succ]
    have h5 : A * ((B + 1) ^ l.length * (B + 1)) = B * (A * (B + 1) ^ l.length) + A * (B + 1) ^ l.length := by grind
    omega
theorem dl_bound (A K : Nat) : ∀ (l : List Int) (k : Nat), (∀ a ∈ l, a.natAbs ≤ A) → k + l.length ≤ K → ∀ a ∈ dl k l, a.natAbs ≤ A * K
  | [], _, _, _, _, h => by cases h
  | b :: l, k, h, hK, a, ha => by
    rcases List.mem_cons.mp ha with rfl | ha
    · rw [Int.natAbs_mul, Int.natAbs_natCast]
      exact Nat.mul_le_mul (h b (List.mem_cons_self ..)) (by simp at hK; omega)
    · exact dl_bound A K l (k + 1) (fun c hc => h c (List.mem_cons_of_mem _ hc)) (by simp at hK; omega) a ha
theorem sl_len (l : List Int) : (sl l).length = l.length - 1 := by
  unfold sl
  rw [List.length_drop, dl_len]
theorem sl_bound (A K : Nat) (l : List Int) (h : ∀ a ∈ l, a.natAbs ≤ A) (hK : l.length ≤ K) : ∀ a ∈ sl l, a.natAbs ≤ A * K := fun a ha =>
  dl_bound A K l 0 h (by omega) a (List.mem_of_mem_drop ha)
/-- a step nearer -/
theorem nstep_alg (P v r s G W q G' Z a b c : Int) (ha : r * s - 1 = W * a) (hb : v * v = Z * b) (hc : W = Z * c) :
    P * v + -(v * r) * (P * s) + -(v * r) * -(v * r) * G + W * (-q) * G' = Z * (-(P * v * c * a) + b * r * r * G + c * (-q) * G') := by
  have h1 : r * s = 1 + Z * c * a := by rw [← hc]; omega
  have e1 : -(v * r) * (P * s) = -(P * v * (r * s)) := by grind
  have e2 : -(v * r) * -(v * r) * G = (v * v) * (r * r * G) := by grind
  rw [e1, e2, h1, hb, hc]
  grind
theorem nstep (l : List Int) (x s v r P W Z : Int) (h1 : pv l x = P * v) (h2 : dv l x = P * s) (h3 : W ∣ r * s - 1) (h4 : Z ∣ v * v) (h5 : Z ∣ W) : Z ∣ pv l ((x - v * r) % W) := by
  obtain ⟨G, e⟩ := taylor x (-(v * r)) l
  have e1 : x + -(v * r) = x - v * r := by omega
  rw [e1, h1, h2] at e
  have e2 : (x - v * r) % W = (x - v * r) + W * (-((x - v * r) / W)) := by
    have := Int.emod_add_mul_ediv (x - v * r) W
    rw [Int.mul_neg]
    omega
  obtain ⟨G', e'⟩ := taylor1 (x - v * r) (W * (-((x - v * r) / W))) l
  rw [e2, e', e]
  obtain ⟨a, ha⟩ := h3
  obtain ⟨b, hb⟩ := h4
  obtain ⟨c, hc⟩ := h5
  exact ⟨_, nstep_alg P v r s G W _ G' Z a b c ha hb hc⟩
theorem pv_mod (l : List Int) (x W Z : Int) (h : Z ∣ pv l x) (h5 : Z ∣ W) : Z ∣ pv l (x % W) := by
  have e2 : x % W = x + W * (-(x / W)) := by
    have := Int.emod_add_mul_ediv x W
    rw [Int.mul_neg]
    omega
  obtain ⟨G', e'⟩ := taylor1 x (W * (-(x / W))) l
  rw [e2, e']
  obtain ⟨a, ha⟩ := h
  obtain ⟨c, hc⟩ := h5
  exact ⟨a + c * -(x / W) * G', by rw [ha, hc, Int.mul_add]; congr 1; rw [Int.mul_assoc, Int.mul_assoc, Int.mul_assoc]⟩
/-- the slope's value stays -/
theorem slope_stays {p c : Nat} {l : List Int} {x y u : Int} (hx : dv l x = ((p ^ c : Nat) : Int) * u) (hu : ¬ (p : Int) ∣ u) (hd : ((p ^ (c + 1) : Nat) : Int) ∣ y - x) : ∃ w, dv l y = ((p ^ c : Nat) : Int) * w ∧ ¬ (p : Int) ∣ w := by
  obtain ⟨t, ht⟩ := hd
  obtain ⟨G, e⟩ := dtaylor x (y - x) l
  rw [show x + (y - x) = y by omega, hx, ht, Nat.pow_succ] at e
  refine ⟨u + p * t * G, by rw [e]; push_cast; grind, fun ⟨z, hz⟩ => hu ⟨z - t * G, by grind⟩⟩
/-- two near ones of one root -/
theorem near_one {p c L : Nat} {l : List Int} {x y u : Int} (hc : ∀ z : Int, ¬ (p : Int) ∣ z → Nat.Coprime (p ^ L) z.natAbs) (hp : 0 < p) (hx : dv l x = ((p ^ c : Nat) : Int) * u) (hu : ¬ (p : Int) ∣ u) (hd : ((p ^ (c + 1) : Nat) : Int) ∣ y - x)
    (h1 : ((p ^ (L + c) : Nat) : Int) ∣ pv l x) (h2 : ((p ^ (L + c) : Nat) : Int) ∣ pv l y) : ((p ^ L : Nat) : Int) ∣ y - x := by
  obtain ⟨t, ht⟩ := hd
  obtain ⟨G, e⟩ := taylor x (y - x) l
  rw [show x + (y - x) = y by omega] at e
  have h0 : (0 : Int) < ((p ^ c : Nat) : Int) := by have := Nat.pow_pos (n := c) hp; omega
  have h3 : ((p ^ L : Nat) : Int) ∣ (u + p * t * G) * (y - x) := by
    obtain ⟨a, ha⟩ := h1
    obtain ⟨b, hb⟩ := h2
    rw [ha, hb, hx] at e
    rw [Nat.pow_succ] at ht
    rw [Nat.pow_add] at e
    push_cast at ht e h0 ⊢
    generalize (p : Int) ^ c = P at *
    generalize (p : Int) ^ L = Q at *
    generalize y - x = d at *
    refine ⟨b - a, ?_⟩
    have : P * ((u + p * t * G) * d) = P * (Q * (b - a)) := by grind
    exact Int.eq_of_mul_eq_mul_left (by omega) this
  exact icop h3 (hc _ fun ⟨z, hz⟩ => hu ⟨z - t * G, by grind⟩)
end Ar
end FX

set_option Elab.async false
set_option linter.all false
set_option maxRecDepth 100000
set_option maxHeartbeats 2000000
set_option autoImplicit false
/-! FP13: exponents by what divides -/
namespace FX
open PySem
namespace Ar
theorem expo_dvd {p n k : Nat} (hp : 2 ≤ p) (h0 : n ≠ 0) : k ≤ expo p n ↔ p ^ k ∣ n := by
  obtain ⟨u, h1, h2⟩ := expo_spec hp h0
  generalize expo p n = e at *
  have hpe : 0 < p ^ e := Nat.pow_pos (by omega)
  constructor
  · intro h
    rw [h1]
    exact Nat.dvd_trans (Nat.pow_dvd_pow p h) (Nat.dvd_mul_right _ _)
  · intro h
    rcases Nat.lt_or_ge e k with hk | hk
    · exfalso
      have h3 : p ^ (e + 1) ∣ p ^ e * u := by rw [← h1]; exact Nat.dvd_trans (Nat.pow_dvd_pow p hk) h
      rw [Nat.pow_succ] at h3
      have h4 := Nat.dvd_of_mul_dvd_mul_left hpe h3
      exact h2 (Nat.mod_eq_zero_of_dvd h4)
    · exact hk
theorem expo_lt {p n M : Nat} (hp : 2 ≤ p) (h0 : n ≠ 0) (h : n < 2 ^ M) : expo p n < M := by
  have h1 := (expo_dvd (k := expo p n) hp h0).mp (Nat.le_refl _)
  have h2 := Nat.le_of_dvd (by omega) h1
  have h3 : 2 ^ expo p n ≤ p ^ expo p n := Nat.pow_le_pow_left hp _
  exact (Nat.pow_lt_pow_iff_right (by decide)).mp (show 2 ^ expo p n < 2 ^ M by omega)
theorem expo_idvd {p k : Nat} {n : Int} (hp : 2 ≤ p) (h0 : n ≠ 0) : k ≤ expo p n.natAbs ↔ ((p ^ k : Nat) : Int) ∣ n := by
  rw [expo_dvd hp (by omega)]
  exact Int.ofNat_dvd_left.symm
theorem expo_ispec {p : Nat} {n : Int} (hp : 2 ≤ p) (h0 : n ≠ 0) : ∃ u : Int, n = ((p ^ expo p n.natAbs : Nat) : Int) * u ∧ ¬ (p : Int) ∣ u := by
  obtain ⟨u, hu⟩ := (expo_idvd (k := expo p n.natAbs) hp h0).mp (Nat.le_refl _)
  refine ⟨u, hu, fun ⟨w, hw⟩ => ?_⟩
  have : expo p n.natAbs + 1 ≤ expo p n.natAbs := (expo_idvd hp h0).mpr ⟨w, by rw [Nat.pow_succ, Int.natCast_mul, Int.mul_assoc, ← hw]; exact hu⟩
  omega
end Ar
end FX

set_option Elab.async false
set_option linter.all false
set_option maxRecDepth 100000
set_option maxHeartbeats 2000000
set_option autoImplicit false
/-! FP14: rows of numbers as polynomials: values tell them -/
namespace FX
open PySem
namespace Ar
theorem pv_append (x : Int) : ∀ l m : List Int, pv (l ++ m) x = pv l x + x ^ l.length * pv m x
  | [], m => by simp [pv]
  | a :: l, m => by
    show a + x * pv (l ++ m) x = a + x * pv l x + x ^ (l.length + 1) * pv m x
    rw [pv_append x l m, Int.pow_succ]; grind
theorem pv_zeros (x : Int) : ∀ n, pv (List.replicate n 0) x = 0
  | 0 => rfl
  | n + 1 => by
    show 0 + x * pv (List.replicate n 0) x = 0
    rw [pv_zeros x n]; simp
theorem pv_set (x c : Int) : ∀ (l : List Int) (k : Nat) (a : Int), l[k]? = some a → pv (l.set k c) x = pv l x + (c - a) * x ^ k
  | b :: l, 0, a, h => by
    obtain rfl := Option.some.inj h
    show c + x * pv l x = b + x * pv l x + (c - b) * x ^ 0
    simp; omega
  | b :: l, k + 1, a, h => by
    show b + x * pv (l.set k c) x = b + x * pv l x + (c - a) * x ^ (k + 1)
    rw [pv_set x c l k a h, Int.pow_succ]; grind
theorem pv_take (x : Int) (l : List Int) (i : Nat) (a : Int) (h : l[i]? = some a) : pv (l.take (i + 1)) x = pv (l.take i) x + a * x ^ i := by
  have hi := (List.getElem?_eq_some_iff.mp h).1
  have e : l.take (i + 1) = l.take i ++ [a] := by
    rw [List.take_add_one, h]; rfl
  rw [e, pv_append, List.length_take, Nat.min_eq_left (by omega)]
  show _ + x ^ i * (a + x * 0) = _
  grind
theorem pv_dvd (x : Int) : ∀ l, x ∣ pv l x - pv l 0
  | [] => ⟨0, by simp [pv]⟩
  | a :: l => ⟨pv l x, by show a + x * pv l x - (a + 0 * pv l 0) = _; simp; omega⟩
theorem big_dvd {c : Int} (h : ∀ x : Int, x ≠ 0 → x ∣ c) : c = 0 := by
  by_cases hc : c = 0
  · exact hc
  · obtain ⟨k, hk⟩ := h (2 * c) (by omega)
    have h1 : c * (2 * k - 1) = 0 := by grind
    rcases Int.mul_eq_zero.mp h1 with z | z
    · exact z
    · omega
/-- values tell the coefficients -/
theorem same_co : ∀ (l m : List Int), (∀ x, pv l x = pv m x) → ∀ i, l.getD i 0 = m.getD i 0
  | [], [], _, i => rfl
  | [], b :: m, h, i => by
    have h0 : b = 0 := by have := h 0; simp [pv] at this; omega
    have h1 : ∀ x, pv [] x = pv m x := by
      have hx : ∀ x : Int, x ≠ 0 → pv m x = 0 := fun x hx => by
        have := h x
        have e : x * pv m x = 0 := by show x * pv m x = 0; have : (0 : Int) = b + x * pv m x := this; omega
        rcases Int.mul_eq_zero.mp e with z | z
        · exact absurd z hx
        · exact z
      intro x
      by_cases hz : x = 0
      · subst hz
        have : pv m 0 = 0 := big_dvd fun y hy => by
          have := pv_dvd y m
          rw [hx y hy] at this
          exact (Int.dvd_neg).mp (by simpa using this)
        rw [this]; rfl
      · rw [hx x hz]; rfl
    have ih := same_co [] m h1
    cases i with
    | zero => simp [h0]
    | succ i => simpa using ih i
  | a :: l, [], h, i => by
    have h0 : a = 0 := by have := h 0; simp [pv] at this; omega
    have h1 : ∀ x, pv l x = pv [] x := by
      have hx : ∀ x : Int, x ≠ 0 → pv l x = 0 := fun x hx => by
        have := h x
        have e : x * pv l x = 0 := by have : a + x * pv l x = (0 : Int) := this; omega
        rcases Int.mul_eq_zero.mp e with z | z
        · exact absurd z hx
        · exact z
      intro x
      by_cases hz : x = 0
      · subst hz
        have : pv l 0 = 0 := big_dvd fun y hy => by
          have := pv_dvd y l
          rw [hx y hy] at this
          exact (Int.dvd_neg).mp (by simpa using this)
        rw [this]; rfl
      · rw [hx x hz]; rfl
    have ih := same_co l [] h1
    cases i with
    | zero => simp [h0]
    | succ i => simpa using ih i
  | a :: l, b :: m, h, i => by
    have h0 : a = b := by have := h 0; simp [pv] at this; omega
    have h1 : ∀ x, pv l x = pv m x := by
      have hx : ∀ x : Int, x ≠ 0 → pv l x = pv m x := fun x hx => by
        have e : a + x * pv l x = b + x * pv m x := h x
        rw [h0] at e
        exact Int.eq_of_mul_eq_mul_left hx (by omega)
      intro x
      by_cases hz : x = 0
      · subst hz
        have : pv l 0 - pv m 0 = 0 := big_dvd fun y hy => by
          have d1 := pv_dvd y l
          have d2 := pv_dvd y m
          rw [hx y hy] at d1
          have := Int.dvd_sub d2 d1
          rwa [show pv m y - pv m 0 - (pv m y - pv l 0) = pv l 0 - pv m 0 by omega] at this
        omega
      · exact hx x hz
    have ih := same_co l m h1
    cases i with
    | zero => simpa using h0
    | succ i => simpa using ih i
/-- no zeros at the end -/
def Trim (l : List Int) : Prop := l = [] ∨ ∃ a, l[l.length - 1]? = some a ∧ a ≠ 0
theorem trim_le {l m : List Int} (h : ∀ i, l.getD i 0 = m.getD i 0) (hl : Trim l) : l.length ≤ m.length := by
  rcases hl with rfl | ⟨a, ha, h0⟩
  · exact Nat.zero_le _
  · have h1 := h (l.length - 1)
    have hlt := (List.getElem?_eq_some_iff.mp ha).1
    rcases Nat.lt_or_ge (l.length - 1) m.length with h2 | h2
    · omega
    · exfalso
      rw [List.getD_eq_getElem?_getD, ha, List.getD_eq_getElem?_getD, List.getElem?_eq_none h2] at h1
      exact h0 h1
/-- trimmed rows with equal values are equal -/
theorem trim_eq {l m : List Int} (hl : Trim l) (hm : Trim m) (h : ∀ x, pv l x = pv m x) : l = m := by
  have hc := same_co l m h
  have e : l.length = m.length := Nat.le_antisymm (trim_le hc hl) (trim_le (fun i => (hc i).symm) hm)
  refine List.ext_getElem e fun i h1 h2 => ?_
  have := hc i
  rw [List.getD_eq_getElem?_getD, List.getD_eq_getElem?_getD, List.getElem?_eq_getElem h1, List.getElem?_eq_getElem h2] at this
  exact this
/-- the length behind the last number other than 0 -/
def tl (l : List Int) : Nat → Nat
  | 0 => 0
  | n + 1 => if l.getD n 0 = 0 then tl l n else n + 1
def trim (l : List Int) : List Int := l.take (tl l l.length)
theorem tl_le (l : List Int) : ∀ n, tl l n ≤ n
  | 0 => Nat.le_refl _
  | n + 1 => by
    unfold tl
    split
    · have := tl_le l n; omega
    · exact Nat.le_refl _
theorem tl_zero (l : List Int) : ∀ n i, tl l n ≤ i → i < n → l.getD i 0 = 0
  | n + 1, i, h1, h2 => by
    unfold tl at h1
    split at h1
    · rename_i hz
      by_cases hi : i = n
      · rw [hi]; exact hz
      · exact tl_zero l n i h1 (by omega)
    · omega
theorem tl_head (l : List Int) : ∀ n, tl l n = 0 ∨ l.getD (tl l n - 1) 0 ≠ 0
  | 0 => .inl rfl
  | n + 1 => by
    unfold tl
    split
    · exact tl_head l n
    · rename_i hz
      exact .inr hz
theorem trim_len (l : List Int) : (trim l).length = tl l l.length := by
  unfold trim
  rw [List.length_take, Nat.min_eq_left (tl_le l _)]
theorem trim_trim (l : List Int) : Trim (trim l) := by
  rcases tl_head l l.length with h | h
  · left
    unfold trim
    rw [h]; rfl
  · by_cases h0 : tl l l.length = 0
    · left
      unfold trim
      rw [h0]; rfl
    · right
      have hle := tl_le l l.length
      refine ⟨l.getD (tl l l.length - 1) 0, ?_, h⟩
      rw [trim_len]
      unfold trim
      rw [List.getElem?_take, if_pos (by omega), List.getD_eq_getElem?_getD, List.getElem?_eq_getElem (by omega)]
      rfl
theorem pv_zero_list (x : Int) : ∀ l : List Int, (∀ a ∈ l, a = 0) → pv l x = 0
  | [], _ => rfl
  | a :: l, h => by
    show a + x * pv l x = 0
    rw [h a (List.mem_cons_self ..), pv_zero_list x l fun b hb => h b (List.mem_cons_of_mem _ hb)]
    simp
theorem pv_trim (l : List Int) (x : Int) : pv (trim l) x = pv l x := by
  conv => rhs; rw [← List.take_append_drop (tl l l.length) l]
  rw [pv_append, pv_zero_list x (l.drop _)]
  · simp [trim]
  · intro a ha
    obtain ⟨j, hj⟩ := List.getElem?_of_mem ha
    rw [List.getElem?_drop] at hj
    have hlt := (List.getElem?_eq_some_iff.mp hj).1
    have := tl_zero l l.length (tl l l.length + j) (by omega) hlt
    rw [List.getD_eq_getElem?_getD, hj] at this
    exact this
theorem trim_mem {l : List Int} {a : Int} (h : a ∈ trim l) : a ∈ l := List.mem_of_mem_take h
theorem trim_le_len (l : List Int) : (trim l).length ≤ l.length := by
  rw [trim_len]; exact tl_le l _
theorem trim_id {l : List Int} (h : Trim l) : trim l = l := trim_eq (trim_trim l) h (pv_trim l)
/-- the derivative of a product, by values -/
theorem dv_prod {a b c : List Int} (h : ∀ x, pv c x = pv a x * pv b x) (x : Int) : dv c x = dv a x * pv b x + pv a x * dv b x := by
  have : dv c x - (dv a x * pv b x + pv a x * dv b x) = 0 := big_dvd fun t ht => by
    obtain ⟨G, e⟩ := taylor x t c
    obtain ⟨A, ea⟩ := taylor x t a
    obtain ⟨B, eb⟩ := taylor x t b
    rw [h, h, ea, eb] at e
    refine ⟨pv a x * B + dv a x * dv b x + t * dv a x * B + A * pv b x + t * A * dv b x + t * t * A * B - G, ?_⟩
    have e2 : t * (dv c x - (dv a x * pv b x + pv a x * dv b x)) = t * (t * (pv a x * B + dv a x * dv b x + t * dv a x * B + A * pv b x + t * A * dv b x + t * t * A * B - G)) := by
      generalize pv a x = pa at *
      generalize pv b x = pb at *
      generalize dv a x = da at *
      generalize dv b x = db at *
      generalize dv c x = dc at *
      grind
    exact Int.eq_of_mul_eq_mul_left ht e2
  omega
theorem dv_same {a b : List Int} (h : ∀ x, pv a x = pv b x) (x : Int) : dv a x = dv b x := by
  have : dv a x - dv b x = 0 := big_dvd fun t ht => by
    obtain ⟨A, ea⟩ := taylor x t a
    obtain ⟨B, eb⟩ := taylor x t b
    rw [h, h] at ea
    refine ⟨B - A, Int.eq_of_mul_eq_mul_left ht ?_⟩
    grind
  omega
end Ar
end FX

set_option Elab.async false
set_option linter.all false
set_option maxRecDepth 100000
set_option maxHeartbeats 2000000
set_option autoImplicit false
/-! FP15: rows of sums and of products, as loops make them -/
namespace FX
open PySem
namespace Ar
def ps (f : Nat → Int) (x : Int) : Nat → Int
  | 0 => 0
  | n + 1 => ps f x n + f n * x ^ n
theorem pv_ps_take (x : Int) (l : List Int) : ∀ n, pv (l.take n) x = ps (fun j => l.getD j 0) x n
  | 0 => rfl
  | n + 1 => by
    show _ = ps _ x n + l.getD n 0 * x ^ n
    rw [← pv_ps_take x l n]
    by_cases h : n < l.length
    · rw [pv_take x l n (l.getD n 0) (by rw [List.getD_eq_getElem?_getD, List.getElem?_eq_getElem h]; rfl)]
    · rw [List.take_of_length_le (by omega), List.take_of_length_le (by omega), List.getD_eq_getElem?_getD, List.getElem?_eq_none (by omega)]
      simp
theorem pv_ps (x : Int) {l : List Int} {n : Nat} (h : l.length ≤ n) : pv l x = ps (fun j => l.getD j 0) x n := by
  rw [← pv_ps_take, List.take_of_length_le h]
theorem ps_lin (x F : Int) (f g : Nat → Int) : ∀ n, ps (fun j => f j + F * g j) x n = ps f x n + F * ps g x n
  | 0 => by simp [ps]
  | n + 1 => by
    show ps _ x n + (f n + F * g n) * x ^ n = ps f x n + f n * x ^ n + F * (ps g x n + g n * x ^ n)
    rw [ps_lin x F f g n]; grind
theorem pv_lin {L a b : List Int} {F : Int} (h : ∀ j, L.getD j 0 = a.getD j 0 + F * b.getD j 0) (x : Int) : pv L x = pv a x + F * pv b x := by
  have hn : ∃ n, L.length ≤ n ∧ a.length ≤ n ∧ b.length ≤ n := ⟨L.length + a.length + b.length, by omega, by omega, by omega⟩
  obtain ⟨n, h1, h2, h3⟩ := hn
  rw [pv_ps x h1, pv_ps x h2, pv_ps x h3, ← ps_lin]
  congr 1
  funext j
  exact h j
theorem getD_set {L : List Int} {i : Nat} (hi : i < L.length) (v : Int) (j : Nat) : (L.set i v).getD j 0 = if j = i then v else L.getD j 0 := by
  rw [List.getD_eq_getElem?_getD, List.getD_eq_getElem?_getD]
  by_cases h : j = i
  · rw [h, List.getElem?_set_self hi, if_pos rfl]; rfl
  · rw [List.getElem?_set_ne (Ne.symm h), if_neg h]
theorem getD_abs {l : List Int} {A : Nat} (h : ∀ c ∈ l, c.natAbs ≤ A) (j : Nat) : (l.getD j 0).natAbs ≤ A := by
  rw [List.getD_eq_getElem?_getD]
  cases e : l[j]? with
  | none => exact Nat.zero_le _
  | some c => exact h c (List.mem_of_getElem? e)
theorem mem_getD {l : List Int} {c : Int} (h : c ∈ l) : ∃ j, l.getD j 0 = c := by
  obtain ⟨j, hj⟩ := List.getElem?_of_mem h
  exact ⟨j, by rw [List.getD_eq_getElem?_getD, hj]; rfl⟩
/-- a product's row: i rows done, j items of the next -/
structure InL (L a b : List Int) (i j N M : Nat) (ai : Int) : Prop where
  len : L.length = N
  val : ∀ x, pv L x = pv (a.take i) x * pv b x + ai * x ^ i * pv (b.take j) x
  lo : ∀ k c, L[k]? = some c → (i + j ≤ k → c.natAbs ≤ i * M) ∧ c.natAbs ≤ (i + 1) * M
structure OutL (L a b : List Int) (i N M : Nat) : Prop where
  len : L.length = N
  val : ∀ x, pv L x = pv (a.take i) x * pv b x
  co : ∀ c ∈ L, c.natAbs ≤ i * M
theorem OutL.inl {L a b : List Int} {i N M : Nat} (h : OutL L a b i N M) (ai : Int) : InL L a b i 0 N M ai :=
  ⟨h.len, fun x => by rw [h.val]; simp [pv], fun k c hc => by
    have := h.co c (List.mem_of_getElem? hc)
    exact ⟨fun _ => this, Nat.le_trans this (Nat.mul_le_mul_right _ (by omega))⟩⟩
theorem InL.step {L a b : List Int} {i j N M : Nat} {ai bj c : Int} (h : InL L a b i j N M ai) (hb : b[j]? = some bj) (hc : L[i + j]? = some c) (hM : (ai * bj).natAbs ≤ M) : InL (L.set (i + j) (c + ai * bj)) a b i (j + 1) N M ai := by
  refine ⟨by rw [List.length_set]; exact h.len, fun x => ?_, fun k d hd => ?_⟩
  · rw [pv_set x _ L _ c hc, h.val, pv_take x b j bj hb, Int.pow_add]
    generalize pv (a.take i) x * pv b x = u
    generalize pv (b.take j) x = w
    generalize x ^ i = y
    generalize x ^ j = z
    grind
  · have hlt := (List.getElem?_eq_some_iff.mp hc).1
    by_cases hk : k = i + j
    · rw [hk, List.getElem?_set_self hlt] at hd
      obtain rfl := Option.some.inj hd
      have h1 := (h.lo _ _ hc).1 (Nat.le_refl _)
      refine ⟨fun z => by omega, ?_⟩
      rw [Nat.add_mul, Nat.one_mul]
      omega
    · rw [List.getElem?_set_ne (Ne.symm hk)] at hd
      have := h.lo _ _ hd
      exact ⟨fun z => this.1 (by omega), this.2⟩
theorem InL.out {L a b : List Int} {i N M : Nat} {ai : Int} (h : InL L a b i b.length N M ai) (ha : a[i]? = some ai) : OutL L a b (i + 1) N M := by
  refine ⟨h.len, fun x => ?_, fun c hc => ?_⟩
  · rw [h.val, List.take_length, pv_take x a i ai ha]
    grind
  · obtain ⟨k, hk⟩ := List.getElem?_of_mem hc
    exact (h.lo _ _ hk).2
theorem OutL.zero (a b : List Int) (N M : Nat) : OutL (List.replicate N 0) a b 0 N M :=
  ⟨by simp, fun x => by rw [pv_zeros]; simp [pv], fun c hc => by rw [List.eq_of_mem_replicate hc]; exact Nat.zero_le _⟩
end Ar
end FX

set_option Elab.async false
set_option linter.all false
set_option maxRecDepth 100000
set_option maxHeartbeats 2000000
set_option autoImplicit false
/-! FP16: primes, Fermat, squares modulo a prime, exponents of products -/
namespace FX
open PySem
namespace Ar
def IsPr (q : Nat) : Prop := 2 ≤ q ∧ ∀ d, d ∣ q → d = 1 ∨ d = q
theorem IsPr.cop {q a : Nat} (h : IsPr q) (ha : ¬ q ∣ a) : Nat.Coprime q a := by
  rcases h.2 _ (Nat.gcd_dvd_left q a) with h1 | h1
  · exact h1
  · exact absurd (h1 ▸ Nat.gcd_dvd_right q a) ha
theorem IsPr.mul {q a b : Nat} (h : IsPr q) (hd : q ∣ a * b) : q ∣ a ∨ q ∣ b := by
  by_cases ha : q ∣ a
  · exact .inl ha
  · exact .inr ((h.cop ha).dvd_of_dvd_mul_left hd)
theorem IsPr.imul {q : Nat} {a b : Int} (h : IsPr q) (hd : (q : Int) ∣ a * b) : (q : Int) ∣ a ∨ (q : Int) ∣ b := by
  rw [Int.ofNat_dvd_left, Int.natAbs_mul] at hd
  rw [Int.ofNat_dvd_left, Int.ofNat_dvd_left]
  exact h.mul hd
/-! ### Fermat -/
def ch : Nat → Nat → Nat
  | _, 0 => 1
  | 0, _ + 1 => 0
  | n + 1, k + 1 => ch n k + ch n (k + 1)
theorem ch_mul : ∀ n k, (k + 1) * ch (n + 1) (k + 1) = (n + 1) * ch n k
  | 0, 0 => rfl
  | 0, k + 1 => by simp [ch]
  | n + 1, 0 => by
    have h := ch_mul n 0
    have e : ch (n + 2) 1 = ch (n + 1) 0 + ch (n + 1) 1 := rfl
    have e0 : ∀ m, ch m 0 = 1 := fun m => by cases m <;> rfl
    rw [e0] at *
    rw [e]
    grind
  | n + 1, k + 1 => by
    have h1 := ch_mul n k
    have h2 := ch_mul n (k + 1)
    have e : ch (n + 2) (k + 2) = ch (n + 1) (k + 1) + ch (n + 1) (k + 2) := rfl
    have e3 : ch (n + 1) (k + 1) = ch n k + ch n (k + 1) := rfl
    rw [e]
    grind
theorem ch_zero : ∀ n k, n < k → ch n k = 0
  | 0, 0, h => absurd h (by omega)
  | 0, k + 1, _ => rfl
  | n + 1, 0, h => absurd h (by omega)
  | n + 1, k + 1, h => by
    show ch n k + ch n (k + 1) = 0
    rw [ch_zero n k (by omega), ch_zero n (k + 1) (by omega)]
theorem ch_self : ∀ n, ch n n = 1
  | 0 => rfl
  | n + 1 => by
    show ch n n + ch n (n + 1) = 1
    rw [ch_self n, ch_zero n (n + 1) (by omega)]
def bsum (n a : Nat) : Nat → Nat
  | 0 => 1
  | m + 1 => bsum n a m + ch n (m + 1) * a ^ (m + 1)
theorem bsum_step (n a : Nat) : ∀ m, bsum (n + 1) a (m + 1) = bsum n a (m + 1) + a * bsum n a m
  | 0 => by
    have e0 : ch n 0 = 1 := by cases n <;> rfl
    simp only [bsum, ch, Nat.zero_add, Nat.pow_one, e0]
    grind
  | m + 1 => by
    have h := bsum_step n a m
    show bsum (n + 1) a (m + 1) + (ch n (m + 1) + ch n (m + 2)) * a ^ (m + 2) = bsum n a (m + 1) + ch n (m + 2) * a ^ (m + 2) + a * (bsum n a m + ch n (m + 1) * a ^ (m + 1))
    rw [h]
    have e : a ^ (m + 2) = a * a ^ (m + 1) := by rw [Nat.pow_succ a (m + 1), Nat.mul_comm]
    rw [e]
    grind
theorem bsum_pow (a : Nat) : ∀ n, bsum n a n = (a + 1) ^ n
  | 0 => rfl
  | n + 1 => by
    rw [bsum_step, Nat.pow_succ, ← bsum_pow a n]
    show bsum n a n + ch n (n + 1) * a ^ (n + 1) + a * bsum n a n = _
    rw [ch_zero n (n + 1) (by omega)]
    grind
theorem IsPr.ch {q k : Nat} (h : IsPr q) (h0 : 0 < k) (h1 : k < q) : q ∣ ch q k := by
  obtain ⟨q', rfl⟩ : ∃ q', q = q' + 1 := ⟨q - 1, by have := h.1; omega⟩
  obtain ⟨k', rfl⟩ : ∃ k', k = k' + 1 := ⟨k - 1, by omega⟩
  have e := ch_mul q' k'
  rcases h.mul (a := k' + 1) (b := Ar.ch (q' + 1) (k' + 1)) (by rw [e]; exact Nat.dvd_mul_right _ _) with h2 | h2
  · exact absurd (Nat.le_of_dvd (by omega) h2) (by omega)
  · exact h2
theorem IsPr.bsum {q : Nat} (h : IsPr q) (a : Nat) : ∀ m, m < q → bsum q a m % q = 1 % q
  | 0, _ => rfl
  | m + 1, hm => by
    show (Ar.bsum q a m + Ar.ch q (m + 1) * a ^ (m + 1)) % q = _
    have hd : q ∣ Ar.ch q (m + 1) * a ^ (m + 1) := Nat.dvd_trans (h.ch (by omega) hm) (Nat.dvd_mul_right _ _)
    rw [Nat.add_mod, Nat.mod_eq_zero_of_dvd hd, Nat.add_zero, Nat.mod_mod]
    exact h.bsum a m (by omega)
theorem IsPr.fermat {q : Nat} (h : IsPr q) : ∀ a, a ^ q % q = a % q
  | 0 => by
    have := h.1
    rw [Nat.zero_pow (by omega)]
  | a + 1 => by
    obtain ⟨q', e⟩ : ∃ q', q = q' + 1 := ⟨q - 1, by have := h.1; omega⟩
    have h1 : (a + 1) ^ q = Ar.bsum q a q' + a ^ q := by
      rw [← bsum_pow a q]
      conv => lhs; rw [show Ar.bsum q a q = Ar.bsum q a (q' + 1) by rw [← e]]
      show Ar.bsum q a q' + Ar.ch q (q' + 1) * a ^ (q' + 1) = _
      rw [← e, ch_self, Nat.one_mul]
    rw [h1, Nat.add_mod, h.bsum a q' (by omega), h.fermat a, ← Nat.add_mod, Nat.add_comm]
theorem IsPr.half {q a : Nat} (h : IsPr q) (h2 : q % 2 = 1) (ha : ¬ q ∣ a) : a ^ ((q - 1) / 2) % q = 1 ∨ a ^ ((q - 1) / 2) % q = q - 1 := by
  have hq := h.1
  obtain ⟨m, e⟩ : ∃ m, q = 2 * m + 1 := ⟨q / 2, by omega⟩
  have em : (q - 1) / 2 = m := by omega
  rw [em]
  have ha0 : 0 < a := Nat.pos_of_ne_zero fun z => ha (z ▸ Nat.dvd_zero _)
  have hx : 1 ≤ a ^ m := Nat.pow_pos ha0
  have hf := h.fermat a
  have e1 : a ^ q = a * (a ^ m * a ^ m) := by rw [e, Nat.pow_succ, Nat.mul_comm 2 m, Nat.pow_mul, Nat.pow_two, Nat.mul_comm]
  rw [e1] at hf
  generalize a ^ m = x at *
  have hd : q ∣ a * (x * x) - a := Nat.dvd_of_mod_eq_zero (Nat.sub_mod_eq_zero_of_mod_eq hf)
  have e2 : a * (x * x) - a = a * ((x - 1) * (x + 1)) := by
    obtain ⟨y, rfl⟩ : ∃ y, x = y + 1 := ⟨x - 1, by omega⟩
    rw [Nat.add_sub_cancel]
    have : a * ((y + 1) * (y + 1)) = a * (y * (y + 1 + 1)) + a := by grind
    omega
  rw [e2] at hd
  rcases h.mul hd with h3 | h3
  · exact absurd h3 ha
  · rcases h.mul h3 with ⟨c, h4⟩ | ⟨c, h4⟩
    · refine .inl ?_
      have e5 : x = q * c + 1 := by omega
      rw [e5, Nat.mul_add_mod, Nat.mod_eq_of_lt (by omega)]
    · refine .inr ?_
      have hc : 1 ≤ c := by
        rcases Nat.eq_zero_or_pos c with hz | hz
        · rw [hz, Nat.mul_zero] at h4; omega
        · exact hz
      obtain ⟨d, rfl⟩ : ∃ d, c = d + 1 := ⟨c - 1, by omega⟩
      have e5 : x = q * d + (q - 1) := by rw [Nat.mul_add, Nat.mul_one] at h4; omega
      rw [e5, Nat.mul_add_mod, Nat.mod_eq_of_lt (by omega)]
end Ar
end FX

set_option Elab.async false
set_option linter.all false
set_option maxRecDepth 100000
set_option maxHeartbeats 2000000
set_option autoImplicit false
/-! FP17: signs of pairs at a place, as plain functions -/
namespace FX
open PySem
namespace Ar
def EE (q : Nat) (n : Int) : Nat := expo q n.natAbs
def UU (q : Nat) (n : Int) : Int := n / ((q ^ EE q n : Nat) : Int)
theorem EU_of {q k : Nat} {n u : Int} (hq : 2 ≤ q) (hn : n = ((q ^ k : Nat) : Int) * u) (hu : ¬ (q : Int) ∣ u) : EE q n = k ∧ UU q n = u := by
  have hqk : ((q ^ k : Nat) : Int) ≠ 0 := by have : 0 < q ^ k := Nat.pow_pos (by omega); omega
  have hu0 : u ≠ 0 := fun z => hu (z ▸ Int.dvd_zero _)
  have hn0 : n ≠ 0 := by rw [hn]; exact Int.mul_ne_zero hqk hu0
  have h1 : k ≤ EE q n := (expo_idvd hq hn0).mpr ⟨u, hn⟩
  have h2 : EE q n = k := by
    rcases Nat.lt_or_ge k (EE q n) with h | h
    · exfalso
      have h3 := (expo_idvd (k := k + 1) hq hn0).mp h
      obtain ⟨w, hw⟩ := h3
      refine hu ⟨w, ?_⟩
      rw [hn, Nat.pow_succ, Int.natCast_mul, Int.mul_assoc] at hw
      exact Int.eq_of_mul_eq_mul_left hqk hw
    · omega
  refine ⟨h2, ?_⟩
  unfold UU
  rw [h2, hn, Int.mul_ediv_cancel_left _ hqk]
theorem EU_spec {q : Nat} {n : Int} (hq : 2 ≤ q) (hn : n ≠ 0) : n = ((q ^ EE q n : Nat) : Int) * UU q n ∧ ¬ (q : Int) ∣ UU q n := by
  obtain ⟨u, h1, h2⟩ := expo_ispec hq hn
  obtain ⟨h3, h4⟩ := EU_of hq h1 h2
  rw [h4]
  exact ⟨h1, h2⟩
theorem EU_mul {q : Nat} {a b : Int} (hq : IsPr q) (ha : a ≠ 0) (hb : b ≠ 0) : EE q (a * b) = EE q a + EE q b ∧ UU q (a * b) = UU q a * UU q b := by
  obtain ⟨a1, a2⟩ := EU_spec hq.1 ha
  obtain ⟨b1, b2⟩ := EU_spec hq.1 hb
  refine EU_of hq.1 ?_ fun h => (hq.imul h).elim a2 b2
  rw [Nat.pow_add, Int.natCast_mul]
  generalize UU q a = u at *
  generalize UU q b = w at *
  generalize ((q ^ EE q a : Nat) : Int) = x at *
  generalize ((q ^ EE q b : Nat) : Int) = y at *
  rw [a1, b1]
  grind
theorem EU_neg {q : Nat} {a : Int} (hq : 2 ≤ q) (ha : a ≠ 0) : EE q (-a) = EE q a ∧ UU q (-a) = -UU q a := by
  obtain ⟨a1, a2⟩ := EU_spec hq ha
  refine EU_of hq ?_ fun h => a2 (Int.dvd_neg.mp h)
  rw [Int.mul_neg, ← a1]
theorem EU_unit {q : Nat} {a : Int} (hq : 2 ≤ q) (ha : ¬ (q : Int) ∣ a) : EE q a = 0 ∧ UU q a = a := EU_of hq (by rw [Nat.pow_zero]; omega) ha
def par (n : Nat) : Bool := decide (n % 2 = 1)
theorem par_add (a b : Nat) : par (a + b) = (par a ^^ par b) := by
  unfold par
  rcases Nat.mod_two_eq_zero_or_one a with h | h <;> rcases Nat.mod_two_eq_zero_or_one b with h' | h' <;> rw [Nat.add_mod, h, h'] <;> rfl
theorem par_mul (a b : Nat) : par (a * b) = (par a && par b) := by
  unfold par
  rcases Nat.mod_two_eq_zero_or_one a with h | h <;> rcases Nat.mod_two_eq_zero_or_one b with h' | h' <;> rw [Nat.mul_mod, h, h'] <;> rfl
/-! ### squares modulo a prime -/
def lam (q : Nat) (u : Int) : Bool := decide (¬ ((u % (q : Int)).toNat ^ ((q - 1) / 2) % q = 1))
theorem toNat_dvd {q : Nat} {u : Int} (hq : 2 ≤ q) (h : ¬ (q : Int) ∣ u) : ¬ q ∣ (u % (q : Int)).toNat := by
  intro z
  have h0 : 0 ≤ u % (q : Int) := Int.emod_nonneg _ (by omega)
  have h1 : u % (q : Int) < q := Int.emod_lt_of_pos _ (by omega)
  have h2 : (u % (q : Int)).toNat < q := by omega
  rcases Nat.eq_zero_or_pos (u % (q : Int)).toNat with hz | hz
  · exact h (Int.dvd_of_emod_eq_zero (by omega))
  · exact absurd (Nat.le_of_dvd hz z) (by omega)
theorem toNat_mul {q : Nat} {u w : Int} (hq : 2 ≤ q) : (u * w % (q : Int)).toNat = (u % (q : Int)).toNat * (w % (q : Int)).toNat % q := by
  have h0 : 0 ≤ u % (q : Int) := Int.emod_nonneg _ (by omega)
  have h1 : 0 ≤ w % (q : Int) := Int.emod_nonneg _ (by omega)
  have h2 : 0 ≤ u * w % (q : Int) := Int.emod_nonneg _ (by omega)
  have e : u * w % (q : Int) = ((u % (q : Int)).toNat * (w % (q : Int)).toNat % q : Nat) := by
    rw [Int.natCast_emod, Int.natCast_mul, Int.toNat_of_nonneg h0, Int.toNat_of_nonneg h1, ← Int.mul_emod]
  rw [e, Int.toNat_natCast]
theorem lam_mul {q : Nat} {u w : Int} (h : IsPr q) (h2 : q % 2 = 1) (hu : ¬ (q : Int) ∣ u) (hw : ¬ (q : Int) ∣ w) : lam q (u * w) = (lam q u ^^ lam q w) := by
  have hq := h.1
  unfold lam
  rw [toNat_mul hq, ← Nat.pow_mod, Nat.mul_pow, Nat.mul_mod]
  rcases h.half h2 (toNat_dvd hq hu) with e1 | e1 <;> rcases h.half h2 (toNat_dvd hq hw) with e2 | e2 <;> rw [e1, e2]
  · rw [Nat.mul_one, Nat.mod_eq_of_lt (by omega)]; rfl
  · rw [Nat.one_mul, Nat.mod_eq_of_lt (by omega)]; have : q - 1 ≠ 1 := by omega
    simp [this]
  · rw [Nat.mul_one, Nat.mod_eq_of_lt (by omega)]; have : q - 1 ≠ 1 := by omega
    simp [this]
  · have e3 : (q - 1) * (q - 1) = q * (q - 2) + 1 := by
      obtain ⟨m, rfl⟩ : ∃ m, q = m + 2 := ⟨q - 2, by omega⟩
      rw [Nat.add_sub_cancel, show m + 2 - 1 = m + 1 by omega]
      grind
    rw [e3, Nat.mul_add_mod, Nat.mod_eq_of_lt (by omega)]
    have : q - 1 ≠ 1 := by omega
    simp [this]
theorem lam_one {q : Nat} (h : 2 ≤ q) : lam q 1 = false := by
  unfold lam
  rw [show (1 : Int) % (q : Int) = 1 from Int.emod_eq_of_lt (by omega) (by omega)]
  show decide (¬ (1 ^ ((q - 1) / 2) % q = 1)) = false
  rw [Nat.one_pow, Nat.mod_eq_of_lt (by omega)]
  rfl
theorem powneg {q : Nat} (h : 2 ≤ q) : ∀ m, (q - 1) ^ m % q = if m % 2 = 1 then q - 1 else 1
  | 0 => by rw [Nat.pow_zero, Nat.mod_eq_of_lt (by omega)]; rfl
  | m + 1 => by
    rw [Nat.pow_succ, Nat.mul_mod, powneg h m]
    by_cases hm : m % 2 = 1
    · rw [if_pos hm, if_neg (by omega), Nat.mod_eq_of_lt (show q - 1 < q by omega)]
      have e3 : (q - 1) * (q - 1) = q * (q - 2) + 1 := by
        obtain ⟨m, rfl⟩ : ∃ m, q = m + 2 := ⟨q - 2, by omega⟩
        rw [Nat.add_sub_cancel, show m + 2 - 1 = m + 1 by omega]
        grind
      rw [e3, Nat.mul_add_mod, Nat.mod_eq_of_lt (by omega)]
    · rw [if_neg hm, if_pos (by omega), Nat.one_mul, Nat.mod_mod, Nat.mod_eq_of_lt (by omega)]
theorem lam_neg1 {q : Nat} (h : 2 < q) : lam q (-1) = par ((q - 1) / 2) := by
  unfold lam
  have e : (-1 : Int) % (q : Int) = ((q - 1 : Nat) : Int) := by
    have h1 : (-1 : Int) = ((q - 1 : Nat) : Int) + (q : Int) * (-1) := by omega
    rw [h1, Int.add_mul_emod_self_left, Int.emod_eq_of_lt (by omega) (by omega)]
  rw [e, Int.toNat_natCast, powneg (by omega)]
  unfold par
  by_cases hm : (q - 1) / 2 % 2 = 1
  · rw [if_pos hm]; have : q - 1 ≠ 1 := by omega
    simp [this, hm]
  · rw [if_neg hm]; simp [hm]
theorem lam_neg {q : Nat} {u : Int} (h : IsPr q) (h2 : q % 2 = 1) (hu : ¬ (q : Int) ∣ u) : lam q (-u) = (par ((q - 1) / 2) ^^ lam q u) := by
  have hq := h.1
  rw [show -u = (-1) * u by omega, lam_mul h h2 (fun z => ?_) hu, lam_neg1 (by omega)]
  have := Int.ofNat_dvd_left.mp z
  have := Nat.le_of_dvd (by decide) this
  simp at this
  omega
/-! ### the signs -/
def al (u : Int) : Bool := decide (u % 4 = 3)
def be (u : Int) : Bool := decide (u % 8 = 3 ∨ u % 8 = 5)
theorem odd8 {u : Int} (h : ¬ ((2 : Nat) : Int) ∣ u) : u % 8 = 1 ∨ u % 8 = 3 ∨ u % 8 = 5 ∨ u % 8 = 7 := by omega
theorem al_of {u r : Int} (h : u % 8 = r) : al u = decide (r % 4 = 3) := by
  unfold al
  have : u % 4 = r % 4 := by omega
  rw [this]
theorem al_mul {u w : Int} (hu : ¬ ((2 : Nat) : Int) ∣ u) (hw : ¬ ((2 : Nat) : Int) ∣ w) : al (u * w) = (al u ^^ al w) ∧ be (u * w) = (be u ^^ be w) := by
  have e : u * w % 8 = (u % 8) * (w % 8) % 8 := Int.mul_emod u w 8
  rw [al_of (r := (u % 8) * (w % 8) % 8) e, al_of (u := u) rfl, al_of (u := w) rfl]
  unfold be
  rw [e]
  rcases odd8 hu with h | h | h | h <;> rcases odd8 hw with h' | h' | h' | h' <;> rw [h, h'] <;> decide
theorem al_neg {u : Int} (hu : ¬ ((2 : Nat) : Int) ∣ u) : al (-u) = !al u ∧ be (-u) = be u := by
  have h8 : (-u) % 8 = (8 - u % 8) % 8 := by omega
  rw [al_of (r := (8 - u % 8) % 8) h8, al_of (u := u) rfl]
  unfold be
  rw [h8]
  rcases odd8 hu with h | h | h | h <;> rw [h] <;> decide
def Sg (q : Nat) (a b : Int) : Bool :=
  if q = 0 then (decide (a < 0) && decide (b < 0)) else
  if q = 2 then (al (UU q a) && al (UU q b)) ^^ ((par (EE q a) && be (UU q b)) ^^ (par (EE q b) && be (UU q a))) else
  ((par (EE q a) && par (EE q b) && par ((q - 1) / 2)) ^^ (par (EE q b) && lam q (UU q a))) ^^ (par (EE q a) && lam q (UU q b))
def Place (q : Nat) : Prop := q = 0 ∨ IsPr q
theorem IsPr.odd {q : Nat} (h : IsPr q) (h2 : q ≠ 2) : q % 2 = 1 := by
  rcases Nat.mod_two_eq_zero_or_one q with z | z
  · rcases h.2 2 (Nat.dvd_of_mod_eq_zero z) with e | e
    · cases e
    · exact absurd e.symm h2
  · exact z
theorem Sg_comm (q : Nat) (a b : Int) : Sg q a b = Sg q b a := by
  unfold Sg
  by_cases h0 : q = 0
  · rw [if_pos h0, if_pos h0, Bool.and_comm]
  · rw [if_neg h0, if_neg h0]
    by_cases h2 : q = 2
    · rw [if_pos h2, if_pos h2]
      generalize al (UU q a) = x
      generalize al (UU q b) = y
      generalize be (UU q a) = z
      generalize be (UU q b) = w
      generalize par (EE q a) = s
      generalize par (EE q b) = t
      revert x y z w s t; decide
    · rw [if_neg h2, if_neg h2]
      generalize lam q (UU q a) = z
      generalize lam q (UU q b) = w
      generalize par (EE q a) = s
      generalize par (EE q b) = t
      generalize par ((q - 1) / 2) = r
      revert z w s t r; decide
theorem Sg_mul {q : Nat} {a b c : Int} (h : Place q) (ha : a ≠ 0) (hb : b ≠ 0) (hc : c ≠ 0) : Sg q a (b * c) = (Sg q a b ^^ Sg q a c) := by
  unfold Sg
  by_cases h0 : q = 0
  · simp only [if_pos h0]
    have e : decide (b * c < 0) = (decide (b < 0) ^^ decide (c < 0)) := by
      rcases Int.lt_or_lt_of_ne hb with hb | hb <;> rcases Int.lt_or_lt_of_ne hc with hc | hc
      · have := Int.mul_pos_of_neg_of_neg hb hc
        simp [hb, hc, show ¬ b * c < 0 by omega]
      · have := Int.mul_neg_of_neg_of_pos hb hc
        simp [hb, this, show ¬ c < 0 by omega]
      · have := Int.mul_neg_of_pos_of_neg hb hc
        simp [hc, this, show ¬ b < 0 by omega]
      · have := Int.mul_pos hb hc
        simp [show ¬ b < 0 by omega, show ¬ c < 0 by omega, show ¬ b * c < 0 by omega]
    rw [e]
    cases decide (a < 0) <;> simp
  · have hp : IsPr q := h.resolve_left h0
    obtain ⟨e1, e2⟩ := EU_mul hp hb hc
    have b2 := (EU_spec hp.1 hb).2
    have c2 := (EU_spec hp.1 hc).2
    simp only [if_neg h0]
    rw [e1, e2, par_add]
    by_cases h2 : q = 2
    · simp only [if_pos h2]
      rw [h2] at b2 c2
      obtain ⟨f1, f2⟩ := al_mul b2 c2
      rw [← h2] at f1 f2
      rw [f1, f2]
      generalize al (UU q a) = x
      generalize al (UU q b) = y
      generalize be (UU q a) = z
      generalize be (UU q b) = w
      generalize par (EE q a) = s
      generalize par (EE q b) = t
      generalize al (UU q c) = y'
      generalize be (UU q c) = w'
      generalize par (EE q c) = t'
      revert x y z w s t y' w' t'; decide +kernel
    · simp only [if_neg h2]
      rw [lam_mul hp (hp.odd h2) b2 c2]
      generalize lam q (UU q a) = z
      generalize lam q (UU q b) = w
      generalize par (EE q a) = s
      generalize par (EE q b) = t
      generalize lam q (UU q c) = w'
      generalize par (EE q c) = t'
      generalize par ((q - 1) / 2) = r
      revert z w s t r w' t'; decide +kernel
theorem Sg_mul' {q : Nat} {a b c : Int} (h : Place q) (ha : a ≠ 0) (hb : b ≠ 0) (hc : c ≠ 0) : Sg q (b * c) a = (Sg q b a ^^ Sg q c a) := by
  rw [Sg_comm, Sg_mul h ha hb hc, Sg_comm q a b, Sg_comm q a c]
theorem Sg_sq {q : Nat} {a b : Int} (h : Place q) (ha : a ≠ 0) (hb : b ≠ 0) : Sg q a (b * b) = false := by
  rw [Sg_mul h ha hb hb]; cases Sg q a b <;> rfl
theorem Sg_neg {q : Nat} {a : Int} (h : Place q) (ha : a ≠ 0) : Sg q a (-a) = false := by
  unfold Sg
  by_cases h0 : q = 0
  · rw [if_pos h0]
    rcases Int.lt_or_lt_of_ne ha with h | h
    · rw [decide_eq_false (show ¬ -a < 0 by omega), Bool.and_false]
    · simp [show ¬ a < 0 by omega]
  · have hp : IsPr q := h.resolve_left h0
    obtain ⟨e1, e2⟩ := EU_neg hp.1 ha
    have a2 := (EU_spec hp.1 ha).2
    rw [if_neg h0, e1, e2]
    by_cases h2 : q = 2
    · rw [if_pos h2]
      rw [h2] at a2
      obtain ⟨f1, f2⟩ := al_neg a2
      rw [← h2] at f1 f2
      rw [f1, f2]
      generalize al (UU q a) = x
      generalize be (UU q a) = z
      generalize par (EE q a) = s
      revert x z s; decide
    · rw [if_neg h2, lam_neg hp (hp.odd h2) a2]
      generalize lam q (UU q a) = z
      generalize par (EE q a) = s
      generalize par ((q - 1) / 2) = r
      revert z s r; decide
/-- a square factor of the first number changes nothing -/
theorem Sg_sqfac {q : Nat} {a b c : Int} (h : Place q) (ha : a ≠ 0) (hb : b ≠ 0) (hc : c ≠ 0) : Sg q (a * (c * c)) b = Sg q a b := by
  rw [Sg_mul' h hb ha (Int.mul_ne_zero hc hc), Sg_comm q (c * c) b, Sg_sq h hb hc, Bool.xor_false]
theorem Sg_units {q : Nat} {a b : Int} (h : IsPr q) (h2 : q ≠ 2) (ha : ¬ (q : Int) ∣ a) (hb : ¬ (q : Int) ∣ b) : Sg q a b = false := by
  unfold Sg
  rw [if_neg (by have := h.1; omega), if_neg h2, (EU_unit h.1 ha).1, (EU_unit h.1 hb).1]
  rfl
def isSq (q : Nat) (a : Int) : Bool :=
  if q = 0 then decide (0 < a) else
  if q = 2 then !par (EE q a) && decide (UU q a % 8 = 1) else !par (EE q a) && !lam q (UU q a)
end Ar
end FX

set_option Elab.async false
set_option linter.all false
set_option maxRecDepth 100000
set_option maxHeartbeats 4000000
set_option autoImplicit false
/-! FP18: signs by solutions: the finite check at 2, 3, 5, 7 -/
namespace FX
open PySem
namespace Ar
def szp (p : Nat) : Nat := if p = 2 then 32 else p * p
/-- what the dict of squares tells after z = 0 .. i - 1 -/
def fl (p size : Nat) : Nat → Nat → Option Bool
  | 0, _ => none
  | i + 1, h => if h = i * i % size then some ((fl p size i h).getD false || decide (i % p ≠ 0)) else fl p size i h
def hit (p size : Nat) (h x y : Nat) : Bool := match fl p size size h with
  | some f => f || decide (x % p ≠ 0) || decide (y % p ≠ 0)
  | none => false
def anyB : Nat → (Nat → Bool) → Bool
  | 0, _ => false
  | n + 1, f => f n || anyB n f
def allB : Nat → (Nat → Bool) → Bool
  | 0, _ => true
  | n + 1, f => f n && allB n f
theorem anyB_t {f : Nat → Bool} : ∀ {n : Nat}, anyB n f = true ↔ ∃ i, i < n ∧ f i = true
  | 0 => ⟨fun h => (nomatch h), fun ⟨i, h, _⟩ => absurd h (by omega)⟩
  | n + 1 => by
    show (f n || anyB n f) = true ↔ _
    rw [Bool.or_eq_true, anyB_t]
    constructor
    · rintro (h | ⟨i, h1, h2⟩)
      · exact ⟨n, by omega, h⟩
      · exact ⟨i, by omega, h2⟩
    · rintro ⟨i, h1, h2⟩
      rcases Nat.lt_or_ge i n with h | h
      · exact .inr ⟨i, h, h2⟩
      · obtain rfl : i = n := by omega
        exact .inl h2
theorem allB_t {f : Nat → Bool} : ∀ {n : Nat}, allB n f = true → ∀ i, i < n → f i = true
  | 0, _, i, h => absurd h (by omega)
  | n + 1, hf, i, h => by
    have hf : (f n && allB n f) = true := hf
    rw [Bool.and_eq_true] at hf
    rcases Nat.lt_or_ge i n with h' | h'
    · exact allB_t hf.2 i h'
    · obtain rfl : i = n := by omega
      exact hf.1
theorem anyB_congr {f g : Nat → Bool} {n : Nat} (h : ∀ i, i < n → f i = g i) : anyB n f = anyB n g := by
  rw [Bool.eq_iff_iff, anyB_t, anyB_t]
  constructor
  · rintro ⟨i, h1, h2⟩; exact ⟨i, h1, by rw [← h i h1]; exact h2⟩
  · rintro ⟨i, h1, h2⟩; exact ⟨i, h1, by rw [h i h1]; exact h2⟩
/-- is there a solution, for coefficients r, s -/
def sol (p : Nat) (r s : Nat) : Bool := anyB (szp p) fun x => anyB (szp p) fun y => hit p (szp p) ((r * x * x + s * y * y) % szp p) x y
def m1 : Nat → Nat
  | 2 => 33751571
  | 3 => 147
  | 5 => 19483219
  | 7 => 97518889569047
  | _ => 0
def m2 : Nat → Nat
  | 2 => 33686018
  | 3 => 146
  | 5 => 19483218
  | 7 => 97518889569046
  | _ => 0
def fhit (a b p : Nat) (h x y : Nat) : Bool := Nat.beq (Nat.land (Nat.shiftRight a h) 1) 1 && (Nat.beq (Nat.land (Nat.shiftRight b h) 1) 1 || !Nat.beq (Nat.mod x p) 0 || !Nat.beq (Nat.mod y p) 0)
def tabOk (p : Nat) : Bool := allB (szp p) fun h => match fl p (szp p) (szp p) h with
  | some f => Nat.beq (Nat.land (Nat.shiftRight (m1 p) h) 1) 1 && (f == Nat.beq (Nat.land (Nat.shiftRight (m2 p) h) 1) 1)
  | none => !Nat.beq (Nat.land (Nat.shiftRight (m1 p) h) 1) 1
theorem tab_ok {p h : Nat} (x y : Nat) (ht : tabOk p = true) (hh : h < szp p) : hit p (szp p) h x y = fhit (m1 p) (m2 p) p h x y := by
  have h1 := allB_t ht h hh
  have e : ∀ n, decide (n ≠ 0) = !Nat.beq n 0 := fun n => by cases n <;> rfl
  unfold hit fhit
  rw [show Nat.mod x p = x % p from rfl, show Nat.mod y p = y % p from rfl, ← e, ← e]
  cases hf : fl p (szp p) (szp p) h with
  | none =>
    rw [hf] at h1
    have h1 : (!Nat.beq (Nat.land (Nat.shiftRight (m1 p) h) 1) 1) = true := h1
    rw [Bool.not_eq_true'] at h1
    rw [h1]; rfl
  | some f =>
    rw [hf] at h1
    have h1 : (Nat.beq (Nat.land (Nat.shiftRight (m1 p) h) 1) 1 && (f == Nat.beq (Nat.land (Nat.shiftRight (m2 p) h) 1) 1)) = true := h1
    rw [Bool.and_eq_true, beq_iff_eq] at h1
    rw [h1.1, ← h1.2, Bool.true_and]
def fsol (a b p n : Nat) (r s : Nat) : Bool := anyB n fun x => (fun t => anyB n fun y => fhit a b p (Nat.mod (Nat.add t (Nat.mul (Nat.mul s y) y)) n) x y) (Nat.mul (Nat.mul r x) x)
theorem fsol_ok {p r s : Nat} (ht : tabOk p = true) (h0 : 0 < szp p) : sol p r s = fsol (m1 p) (m2 p) p (szp p) r s :=
  anyB_congr fun x _ => anyB_congr fun y _ => tab_ok x y ht (Nat.mod_lt _ h0)
def okP (p : Nat) : Bool := tabOk p && allB (szp p) fun r => allB (szp p) fun s => Nat.beq (Nat.mod r (if p = 2 then 4 else p * p)) 0 || Nat.beq (Nat.mod s (if p = 2 then 4 else p * p)) 0 || (fsol (m1 p) (m2 p) p (szp p) r s == !Sg p (Int.ofNat r) (Int.ofNat s))
/-! ### what the residues tell -/
def sm (p : Nat) (a : Int) : Int := ((p ^ (EE p a % 2) : Nat) : Int) * UU p a
theorem sm_fac {p : Nat} {a : Int} (hp : 2 ≤ p) (ha : a ≠ 0) : a = sm p a * (((p ^ (EE p a / 2) : Nat) : Int) * ((p ^ (EE p a / 2) : Nat) : Int)) := by
  have h := (EU_spec hp ha).1
  unfold sm
  have e : ((p ^ EE p a : Nat) : Int) = ((p ^ (EE p a % 2) : Nat) : Int) * (((p ^ (EE p a / 2) : Nat) : Int) * ((p ^ (EE p a / 2) : Nat) : Int)) := by
    rw [← Int.natCast_mul, ← Int.natCast_mul, ← Nat.pow_add, ← Nat.pow_add]
    congr 2
    omega
  rw [e] at h
  grind
theorem sm_EU {p : Nat} {a : Int} (hp : 2 ≤ p) (ha : a ≠ 0) : EE p (sm p a) = EE p a % 2 ∧ UU p (sm p a) = UU p a := EU_of hp rfl (EU_spec hp ha).2
theorem sm_ne {p : Nat} {a : Int} (hp : 2 ≤ p) (ha : a ≠ 0) : sm p a ≠ 0 := fun z => ha (by rw [sm_fac hp ha, z, Int.zero_mul])
theorem Sg_sm {p : Nat} {a b : Int} (hp : IsPr p) (ha : a ≠ 0) (hb : b ≠ 0) : Sg p (sm p a) (sm p b) = Sg p a b := by
  have h0 : ∀ n, ((p ^ n : Nat) : Int) ≠ 0 := fun n => by have : 0 < p ^ n := Nat.pow_pos (by have := hp.1; omega); omega
  have e1 : Sg p a b = Sg p (sm p a) b := by
    conv => lhs; rw [sm_fac hp.1 ha]
    exact Sg_sqfac (.inr hp) (sm_ne hp.1 ha) hb (h0 _)
  have e2 : Sg p (sm p a) b = Sg p (sm p a) (sm p b) := by
    rw [Sg_comm, Sg_comm p _ (sm p b)]
    conv => lhs; rw [sm_fac hp.1 hb]
    exact Sg_sqfac (.inr hp) (sm_ne hp.1 hb) (sm_ne hp.1 ha) (h0 _)
  rw [e1, e2]
/-- a number and its residue: the same exponent, units alike -/
theorem res_EU {p m : Nat} {s : Int} (hp : 2 ≤ p) (hs : s ≠ 0) (h1 : EE p s ≤ 1) (hm : p ∣ m) : ¬ ((p * p : Nat) : Int) ∣ ((p * m : Nat) : Int) * 0 + s % ((p * m : Nat) : Int) ∧ EE p (s % ((p * m : Nat) : Int)) = EE p s ∧ (m : Int) ∣ UU p (s % ((p * m : Nat) : Int)) - UU p s := by
  obtain ⟨k, rfl⟩ := hm
  obtain ⟨u1, u2⟩ := EU_spec hp hs
  have hp0 : (p : Int) ≠ 0 := by omega
  generalize hr : s % ((p * (p * k) : Nat) : Int) = r
  have hd : s = ((p * (p * k) : Nat) : Int) * (s / ((p * (p * k) : Nat) : Int)) + r := by rw [← hr]; exact (Int.mul_ediv_add_emod _ _).symm
  generalize s / ((p * (p * k) : Nat) : Int) = t at hd
  rw [Int.natCast_mul, Int.natCast_mul] at hd
  rw [Int.mul_zero, Int.zero_add]
  rcases Nat.le_one_iff_eq_zero_or_eq_one.mp h1 with h | h
  · rw [h] at u1
    rw [Nat.pow_zero, show ((1 : Nat) : Int) = 1 from rfl, Int.one_mul] at u1
    have hn : ¬ (p : Int) ∣ r := fun ⟨w, hw⟩ => u2 (by rw [← u1, hd, hw]; exact ⟨p * k * t + w, by grind⟩)
    obtain ⟨e1, e2⟩ := EU_unit hp hn
    refine ⟨fun ⟨w, hw⟩ => hn ⟨p * w, by rw [hw, Int.natCast_mul, Int.mul_assoc]⟩, by rw [e1, h], ?_⟩
    rw [e2, ← u1]
    refine ⟨-(p * t), ?_⟩
    rw [Int.natCast_mul]
    grind
  · rw [h] at u1
    rw [Nat.pow_one] at u1
    have hr2 : r = (p : Int) * (UU p s - (p : Int) * k * t) := by
      have : r = s - (p : Int) * (p * k) * t := by omega
      rw [this]
      generalize UU p s = u at *
      rw [u1]
      grind
    have hn : ¬ (p : Int) ∣ UU p s - (p : Int) * k * t := fun ⟨w, hw⟩ => u2 ⟨w + k * t, by
      generalize UU p s = u at *
      have : u = p * w + p * k * t := by omega
      rw [this]; grind⟩
    obtain ⟨e1, e2⟩ := EU_of (k := 1) hp (n := r) (by rw [Nat.pow_one]; exact hr2) hn
    refine ⟨fun ⟨w, hw⟩ => ?_, by rw [e1, h], ?_⟩
    · rw [hr2, Int.natCast_mul, Int.mul_assoc (p : Int) (p : Int) w] at hw
      exact hn ⟨w, Int.eq_of_mul_eq_mul_left hp0 hw⟩
    · rw [e2]
      refine ⟨-t, ?_⟩
      rw [Int.natCast_mul]
      generalize UU p s = u at *
      grind
theorem lam_congr {q : Nat} {u w : Int} (h : (q : Int) ∣ u - w) : lam q u = lam q w := by
  unfold lam
  rw [Int.emod_eq_emod_iff_emod_sub_eq_zero.mpr (Int.emod_eq_zero_of_dvd h)]
theorem Sg_congr {p : Nat} {a b a' b' : Int} (h0 : p ≠ 0) (ea : EE p a' = EE p a) (eb : EE p b' = EE p b) (ha : ((if p = 2 then 16 else p : Nat) : Int) ∣ UU p a' - UU p a) (hb : ((if p = 2 then 16 else p : Nat) : Int) ∣ UU p b' - UU p b) : Sg p a' b' = Sg p a b := by
  unfold Sg
  rw [if_neg h0, if_neg h0, ea, eb]
  by_cases h2 : p = 2
  · rw [if_pos h2, if_pos h2]
    rw [if_pos h2] at ha hb
    generalize UU p a = u at *
    generalize UU p b = w at *
    generalize UU p a' = u' at *
    generalize UU p b' = w' at *
    have a8 : u' % 8 = u % 8 := by omega
    have b8 : w' % 8 = w % 8 := by omega
    rw [al_of a8, al_of b8, ← al_of (u := u) rfl, ← al_of (u := w) rfl]
    unfold be
    rw [a8, b8]
  · rw [if_neg h2, if_neg h2]
    rw [if_neg h2] at ha hb
    rw [lam_congr ha, lam_congr hb]
theorem sol_ok {p : Nat} {a b : Int} (hp : IsPr p) (hk : okP p = true) (ha : a ≠ 0) (hb : b ≠ 0) : sol p (sm p a % (szp p : Int)).toNat (sm p b % (szp p : Int)).toNat = !Sg p a b := by
  have hp2 := hp.1
  unfold okP at hk
  rw [Bool.and_eq_true] at hk
  obtain ⟨ht, hk⟩ := hk
  obtain ⟨m, hm, hpm, hm16⟩ : ∃ m, szp p = p * m ∧ p ∣ m ∧ m = if p = 2 then 16 else p := by
    unfold szp
    by_cases h2 : p = 2
    · subst h2; exact ⟨16, rfl, ⟨8, rfl⟩, rfl⟩
    · exact ⟨p, by rw [if_neg h2], Nat.dvd_refl _, by rw [if_neg h2]⟩
  have hsz : 0 < szp p := by
    rw [hm]
    refine Nat.mul_pos (by omega) ?_
    rw [hm16]; split <;> omega
  have hz : (szp p : Int) ≠ 0 := by omega
  have ea := (sm_EU hp2 ha).1
  have eb := (sm_EU hp2 hb).1
  obtain ⟨a1, a2, a3⟩ := res_EU (s := sm p a) hp2 (sm_ne hp2 ha) (by omega) hpm
  obtain ⟨b1, b2, b3⟩ := res_EU (s := sm p b) hp2 (sm_ne hp2 hb) (by omega) hpm
  rw [← hm] at a1 a2 a3 b1 b2 b3
  rw [Int.mul_zero, Int.zero_add] at a1 b1
  rw [hm16] at a3 b3
  have hg := Sg_congr (by omega) a2 b2 a3 b3
  rw [Sg_sm hp ha hb] at hg
  have ra0 : 0 ≤ sm p a % (szp p : Int) := Int.emod_nonneg _ hz
  have ra1 : sm p a % (szp p : Int) < szp p := Int.emod_lt_of_pos _ (by omega)
  have rb0 : 0 ≤ sm p b % (szp p : Int) := Int.emod_nonneg _ hz
  have rb1 : sm p b % (szp p : Int) < szp p := Int.emod_lt_of_pos _ (by omega)
  generalize sm p a % (szp p : Int) = r at *
  generalize sm p b % (szp p : Int) = s at *
  obtain ⟨r, rfl⟩ := Int.eq_ofNat_of_zero_le ra0
  obtain ⟨s, rfl⟩ := Int.eq_ofNat_of_zero_le rb0
  rw [Int.toNat_natCast, Int.toNat_natCast, fsol_ok ht hsz]
  have h := allB_t (allB_t hk r (by omega)) s (by omega)
  have hq : (if p = 2 then 4 else p * p) = p * p := by
    by_cases h2 : p = 2
    · rw [if_pos h2, h2]
    · rw [if_neg h2]
  rw [hq] at h
  have hr : Nat.beq (Nat.mod r (p * p)) 0 = false := by
    cases z : Nat.beq (Nat.mod r (p * p)) 0 with
    | false => rfl
    | true => exact absurd (Int.natCast_dvd_natCast.mpr (Nat.dvd_of_mod_eq_zero (Nat.eq_of_beq_eq_true z))) a1
  have hs : Nat.beq (Nat.mod s (p * p)) 0 = false := by
    cases z : Nat.beq (Nat.mod s (p * p)) 0 with
    | false => rfl
    | true => exact absurd (Int.natCast_dvd_natCast.mpr (Nat.dvd_of_mod_eq_zero (Nat.eq_of_beq_eq_true z))) b1
  rw [hr, hs, Bool.false_or, Bool.false_or, beq_iff_eq] at h
  rw [h]
  exact congrArg (!·) hg
end Ar
end FX

set_option Elab.async false
set_option linter.all false
set_option maxRecDepth 100000
set_option maxHeartbeats 2000000
set_option autoImplicit false
/-! FP19: the law of two squares signs (Gauss, Eisenstein) -/
namespace FX
open PySem
namespace Ar
/-! ### xor over a list -/
def xl : List Bool → Bool
  | [] => false
  | b :: l => b ^^ xl l
theorem xl_append : ∀ l m : List Bool, xl (l ++ m) = (xl l ^^ xl m)
  | [], m => by simp [xl]
  | b :: l, m => by
    show (b ^^ xl (l ++ m)) = ((b ^^ xl l) ^^ xl m)
    rw [xl_append l m, Bool.xor_assoc]
theorem xl_perm {l m : List Bool} (h : l.Perm m) : xl l = xl m := by
  induction h with
  | nil => rfl
  | cons b _ ih => show (b ^^ _) = (b ^^ _); rw [ih]
  | swap a b l => show (b ^^ (a ^^ xl l)) = (a ^^ (b ^^ xl l)); rw [← Bool.xor_assoc, ← Bool.xor_assoc, Bool.xor_comm b a]
  | trans _ _ h1 h2 => exact h1.trans h2
theorem xl_xor {α : Type} (f g : α → Bool) : ∀ l : List α, xl (l.map fun x => f x ^^ g x) = (xl (l.map f) ^^ xl (l.map g))
  | [] => rfl
  | x :: l => by
    show ((f x ^^ g x) ^^ xl (l.map _)) = ((f x ^^ xl (l.map f)) ^^ (g x ^^ xl (l.map g)))
    rw [xl_xor f g l]
    generalize f x = a
    generalize g x = b
    generalize xl (l.map f) = c
    generalize xl (l.map g) = d
    revert a b c d; decide
theorem xl_false {α : Type} {f : α → Bool} : ∀ {l : List α}, (∀ x ∈ l, f x = false) → xl (l.map f) = false
  | [], _ => rfl
  | x :: l, h => by
    show (f x ^^ xl (l.map f)) = false
    rw [h x (List.mem_cons_self), xl_false fun y hy => h y (List.mem_cons_of_mem _ hy)]
    rfl
theorem xl_congr {α : Type} {f g : α → Bool} : ∀ {l : List α}, (∀ x ∈ l, f x = g x) → xl (l.map f) = xl (l.map g)
  | [], _ => rfl
  | x :: l, h => by
    show (f x ^^ xl (l.map f)) = (g x ^^ xl (l.map g))
    rw [h x (List.mem_cons_self), xl_congr fun y hy => h y (List.mem_cons_of_mem _ hy)]
/-- a double xor -/
theorem xl_swap {α β : Type} (f : α → β → Bool) : ∀ (l : List α) (m : List β), xl (l.map fun x => xl (m.map (f x))) = xl (m.map fun y => xl (l.map fun x => f x y))
  | [], m => (xl_false fun _ _ => rfl).symm
  | x :: l, m => by
    show (xl (m.map (f x)) ^^ xl (l.map _)) = _
    rw [xl_swap f l m, ← xl_xor]
    rfl
theorem xl_true {α : Type} : ∀ l : List α, xl (l.map fun _ => true) = par l.length
  | [] => rfl
  | x :: l => by
    show (true ^^ xl (l.map _)) = par (l.length + 1)
    rw [xl_true l, par_add]
    show (true ^^ par l.length) = (par l.length ^^ true)
    rw [Bool.xor_comm]
theorem xl_par : ∀ (l : List Nat) , par l.sum = xl (l.map par)
  | [] => rfl
  | x :: l => by
    show par ((x :: l).sum) = (par x ^^ xl (l.map par))
    rw [List.sum_cons, par_add, xl_par l]
/-- how many of 1 .. n are let: as a number -/
theorem par_count (m : Nat) : ∀ n, m ≤ n → par m = xl ((List.range n).map fun i => decide (i + 1 ≤ m))
  | 0, h => by
    obtain rfl : m = 0 := by omega
    rfl
  | n + 1, h => by
    rw [List.range_succ, List.map_append, xl_append]
    rcases Nat.lt_or_ge n m with z | z
    · obtain rfl : m = n + 1 := by omega
      have e : xl ((List.range n).map fun i => decide (i + 1 ≤ n + 1)) = par n := by
        have ht := xl_true (List.range n)
        rw [List.length_range] at ht
        rw [← ht]
        refine xl_congr fun x hx => ?_
        have := List.mem_range.mp hx
        exact decide_eq_true (by omega)
      rw [e, par_add]
      show _ = (par n ^^ (decide (n + 1 ≤ n + 1) ^^ false))
      rw [decide_eq_true (Nat.le_refl _)]
      rfl
    · rw [par_count m n z]
      show _ = (_ ^^ (decide (n + 1 ≤ m) ^^ false))
      rw [decide_eq_false (by omega)]
      simp
/-! ### rearrangements of 1 .. n -/
theorem perm_of : ∀ (n : Nat) (l : List Nat), l.Nodup → (∀ x ∈ l, 1 ≤ x ∧ x ≤ n) → l.length ≤ n ∧ (l.length = n → l.Perm ((List.range n).map (· + 1)))
  | 0, [], _, _ => ⟨Nat.le_refl _, fun _ => .nil⟩
  | 0, x :: l, _, h => absurd (h x (List.mem_cons_self)) (by omega)
  | n + 1, l, hn, h => by
    by_cases hm : n + 1 ∈ l
    · have p := List.perm_cons_erase hm
      obtain ⟨h1, h2⟩ := perm_of n (l.erase (n + 1)) (hn.erase _) fun x hx => by
        obtain ⟨a, b⟩ := hn.mem_erase_iff.mp hx
        have := h x b
        omega
      have hl := List.length_erase_of_mem hm
      have hpos : 0 < l.length := List.length_pos_of_mem hm
      refine ⟨by omega, fun e => ?_⟩
      have h3 := h2 (by omega)
      rw [List.range_succ, List.map_append]
      exact p.trans ((h3.cons (n + 1)).trans (List.perm_append_singleton _ _).symm)
    · obtain ⟨h1, _⟩ := perm_of n l hn fun x hx => by
        have := h x hx
        have : x ≠ n + 1 := fun z => hm (z ▸ hx)
        omega
      exact ⟨by omega, fun e => absurd e (by omega)⟩
def pl : List Nat → Nat
  | [] => 1
  | x :: l => x * pl l
theorem pl_perm {l m : List Nat} (h : l.Perm m) : pl l = pl m := by
  induction h with
  | nil => rfl
  | cons b _ ih => show b * _ = b * _; rw [ih]
  | swap a b l => show b * (a * pl l) = a * (b * pl l); rw [Nat.mul_left_comm]
  | trans _ _ h1 h2 => exact h1.trans h2
/-! ### Gauss -/
/-- the least remainder without its sign, and whether it has one -/
def gr (q a k : Nat) : Nat := if k * a % q ≤ (q - 1) / 2 then k * a % q else q - k * a % q
def gn (q a k : Nat) : Bool := decide (¬ k * a % q ≤ (q - 1) / 2)
def sgI (b : Bool) : Int := if b then -1 else 1
theorem gr_dvd {q : Nat} (h : 0 < q) (a k : Nat) : (q : Int) ∣ ((k * a : Nat) : Int) - sgI (gn q a k) * (gr q a k : Int) := by
  have e := Nat.div_add_mod (k * a) q
  have hm := Nat.mod_lt (k * a) h
  unfold gr gn
  generalize k * a / q = x at *
  by_cases z : k * a % q ≤ (q - 1) / 2
  · rw [if_pos z]
    rw [show sgI (decide ¬k * a % q ≤ (q - 1) / 2) = 1 by simp [z, sgI]]
    refine ⟨x, ?_⟩
    generalize k * a % q = r at *
    have : ((k * a : Nat) : Int) = q * x + r := by rw [← e]; simp
    omega
  · rw [if_neg z]
    rw [show sgI (decide ¬k * a % q ≤ (q - 1) / 2) = -1 by simp [z, sgI]]
    refine ⟨x + 1, ?_⟩
    generalize k * a % q = r at *
    have h1 : ((k * a : Nat) : Int) = q * x + r := by rw [← e]; simp
    rw [h1, Int.ofNat_sub (Nat.le_of_lt hm), Int.mul_add, Int.mul_one]
    omega
theorem gauss_prod {q : Nat} (h : 0 < q) (a : Nat) : ∀ ks : List Nat, (q : Int) ∣ ((a ^ ks.length * pl ks : Nat) : Int) - sgI (xl (ks.map (gn q a))) * (pl (ks.map (gr q a)) : Int)
  | [] => ⟨0, by simp [pl, xl, sgI]⟩
  | k :: ks => by
    obtain ⟨x, hx⟩ := gauss_prod h a ks
    obtain ⟨y, hy⟩ := gr_dvd h a k
    have e1 : ((a ^ (k :: ks).length * pl (k :: ks) : Nat) : Int) = ((k * a : Nat) : Int) * ((a ^ ks.length * pl ks : Nat) : Int) := by
      rw [← Int.natCast_mul]
      congr 1
      show a ^ (ks.length + 1) * (k * pl ks) = _
      rw [Nat.pow_succ]
      grind
    have e2 : sgI (xl ((k :: ks).map (gn q a))) = sgI (gn q a k) * sgI (xl (ks.map (gn q a))) := by
      show sgI (gn q a k ^^ xl (ks.map (gn q a))) = _
      cases gn q a k <;> cases xl (ks.map (gn q a)) <;> rfl
    have e3 : (pl ((k :: ks).map (gr q a)) : Int) = (gr q a k : Int) * (pl (ks.map (gr q a)) : Int) := by
      rw [← Int.natCast_mul]; rfl
    rw [e1, e2, e3]
    generalize ((k * a : Nat) : Int) = u at *
    generalize ((a ^ ks.length * pl ks : Nat) : Int) = v at *
    generalize sgI (gn q a k) = s at *
    generalize sgI (xl (ks.map (gn q a))) = t at *
    generalize (gr q a k : Int) = m at *
    generalize (pl (ks.map (gr q a)) : Int) = n at *
    refine ⟨u * x + t * n * y, ?_⟩
    grind
def half (q : Nat) : List Nat := (List.range ((q - 1) / 2)).map (· + 1)
theorem half_mem {q k : Nat} : k ∈ half q ↔ 1 ≤ k ∧ k ≤ (q - 1) / 2 := by
  unfold half
  rw [List.mem_map]
  constructor
  · rintro ⟨i, hi, rfl⟩
    have := List.mem_range.mp hi
    omega
  · rintro ⟨h1, h2⟩
    exact ⟨k - 1, List.mem_range.mpr (by omega), by omega⟩
theorem small_dvd0 {q : Nat} {c : Int} (h : (q : Int) ∣ c) (h2 : c.natAbs < q) : c = 0 := by
  have h3 := Int.ofNat_dvd_left.mp h
  rcases Nat.eq_zero_or_pos c.natAbs with z | z
  · omega
  · exact absurd (Nat.le_of_dvd z h3) (by omega)
theorem gr_inj {q a k k' : Nat} (h : IsPr q) (h2 : q % 2 = 1) (ha : ¬ q ∣ a) (hk : k ∈ half q) (hk' : k' ∈ half q) (e : gr q a k = gr q a k') : k = k' := by
  have hq := h.1
  obtain ⟨a1, a2⟩ := half_mem.mp hk
  obtain ⟨b1, b2⟩ := half_mem.mp hk'
  have ha' : ¬ (q : Int) ∣ (a : Int) := fun z => ha (Int.natCast_dvd_natCast.mp z)
  obtain ⟨x, hx⟩ := gr_dvd (by omega : 0 < q) a k
  obtain ⟨y, hy⟩ := gr_dvd (by omega : 0 < q) a k'
  rw [e] at hx
  rw [Int.natCast_mul] at hx hy
  generalize (gr q a k' : Int) = g at *
  have key : ∀ c : Int, (q : Int) ∣ c * a → c.natAbs < q → c = 0 := fun c hc hb => small_dvd0 ((h.imul hc).resolve_right ha') hb
  cases hs : gn q a k <;> cases ht : gn q a k' <;> rw [hs] at hx <;> rw [ht] at hy
  · have := key (k - k' : Int) ⟨x - y, by simp only [sgI] at hx hy; grind⟩ (by omega)
    omega
  · have := key (k + k' : Int) ⟨x + y, by simp only [sgI] at hx hy; grind⟩ (by omega)
    omega
  · have := key (k + k' : Int) ⟨x + y, by simp only [sgI] at hx hy; grind⟩ (by omega)
    omega
  · have := key (k - k' : Int) ⟨x - y, by simp only [sgI] at hx hy; grind⟩ (by omega)
    omega
theorem half_nodup (q : Nat) : (half q).Nodup := by
  unfold half
  exact List.pairwise_map.mpr (List.nodup_range.imp fun h => by omega)
theorem gr_perm {q a : Nat} (h : IsPr q) (h2 : q % 2 = 1) (ha : ¬ q ∣ a) : ((half q).map (gr q a)).Perm (half q) := by
  have hq := h.1
  refine (perm_of ((q - 1) / 2) _ ?_ ?_).2 (by unfold half; simp)
  · exact List.pairwise_map.mpr ((half_nodup q).imp_of_mem fun hx hy hne e => hne (gr_inj h h2 ha hx hy e))
  · intro x hx
    obtain ⟨k, hk, rfl⟩ := List.mem_map.mp hx
    obtain ⟨a1, a2⟩ := half_mem.mp hk
    have hm := Nat.mod_lt (k * a) (show 0 < q by omega)
    have h0 : k * a % q ≠ 0 := fun z => by
      rcases h.mul (Nat.dvd_of_mod_eq_zero z) with w | w
      · exact absurd (Nat.le_of_dvd (by omega) w) (by omega)
      · exact ha w
    unfold gr
    split <;> omega
theorem pl_cop {q : Nat} (h : IsPr q) : ∀ l : List Nat, (∀ x ∈ l, 1 ≤ x ∧ x < q) → ¬ q ∣ pl l
  | [], _, hd => by
    have := Nat.le_of_dvd (by decide) hd
    have := h.1
    simp [pl] at *
    omega
  | x :: l, hl, hd => by
    rcases h.mul (show q ∣ x * pl l from hd) with w | w
    · have := hl x (List.mem_cons_self)
      exact absurd (Nat.le_of_dvd (by omega) w) (by omega)
    · exact pl_cop h l (fun y hy => hl y (List.mem_cons_of_mem _ hy)) w
def mu (q a : Nat) : Bool := xl ((half q).map (gn q a))
theorem gauss {q a : Nat} (h : IsPr q) (h2 : q % 2 = 1) (ha : ¬ q ∣ a) : lam q (a : Int) = mu q a := by
  have hq := h.1
  have hd := gauss_prod (by omega : 0 < q) a (half q)
  rw [pl_perm (gr_perm h h2 ha)] at hd
  have hl : (half q).length = (q - 1) / 2 := by unfold half; simp
  rw [hl, Int.natCast_mul, ← Int.sub_mul] at hd
  have hc : ¬ (q : Int) ∣ (pl (half q) : Int) := fun z => pl_cop h (half q) (fun x hx => by
    have := half_mem.mp hx
    omega) (Int.natCast_dvd_natCast.mp z)
  have hd := (h.imul hd).resolve_right hc
  have hr : (((a : Int) % (q : Int)).toNat) = a % q := by rw [← Int.natCast_emod, Int.toNat_natCast]
  unfold lam
  rw [hr, ← Nat.pow_mod]
  show decide (¬ a ^ ((q - 1) / 2) % q = 1) = mu q a
  have hmu : xl ((half q).map (gn q a)) = mu q a := rfl
  rw [hmu] at hd
  cases hm : mu q a with
  | false =>
    rw [hm] at hd
    have : ((a ^ ((q - 1) / 2) : Nat) : Int) % (q : Int) = 1 := by
      have e : (sgI false : Int) = 1 := rfl
      rw [e] at hd
      have h1 := Int.emod_eq_emod_iff_emod_sub_eq_zero.mpr (Int.emod_eq_zero_of_dvd hd)
      rw [h1]
      exact Int.emod_eq_of_lt (by decide) (by omega)
    have h3 : a ^ ((q - 1) / 2) % q = 1 := by rw [← Int.natCast_emod] at this; omega
    rw [h3]; rfl
  | true =>
    rw [hm] at hd
    have h3 : ¬ a ^ ((q - 1) / 2) % q = 1 := fun z => by
      have e : (sgI true : Int) = -1 := rfl
      rw [e] at hd
      have h4 : (q : Int) ∣ ((a ^ ((q - 1) / 2) : Nat) : Int) - 1 := by
        refine Int.dvd_of_emod_eq_zero (Int.emod_eq_emod_iff_emod_sub_eq_zero.mp ?_)
        rw [← Int.natCast_emod, z]
        exact (Int.emod_eq_of_lt (by decide) (by omega)).symm
      have h5 : (q : Int) ∣ 2 := by
        have := Int.dvd_sub hd h4
        have e2 : ((a ^ ((q - 1) / 2) : Nat) : Int) - -1 - (((a ^ ((q - 1) / 2) : Nat) : Int) - 1) = 2 := by omega
        rwa [e2] at this
      have h6 := Int.natCast_dvd_natCast.mp (show (q : Int) ∣ ((2 : Nat) : Int) from h5)
      have := Nat.le_of_dvd (by decide) h6
      omega
    exact decide_eq_true h3
/-- the second supplement -/
theorem lam_two {q : Nat} (h : IsPr q) (h2 : q % 2 = 1) : lam q 2 = be q := by
  have hq := h.1
  have := gauss (a := 2) h h2 (fun z => by have := Nat.le_of_dvd (by decide) z; omega)
  rw [show ((2 : Nat) : Int) = 2 from rfl] at this
  rw [this]
  unfold mu half
  rw [List.map_map]
  have e : xl ((List.range ((q - 1) / 2)).map (gn q 2 ∘ fun x => x + 1)) = xl ((List.range ((q - 1) / 2)).map fun i => true ^^ decide (i + 1 ≤ (q - 1) / 2 / 2)) := by
    refine xl_congr fun i hi => ?_
    have hi := List.mem_range.mp hi
    show decide (¬ (i + 1) * 2 % q ≤ (q - 1) / 2) = _
    rw [Nat.mod_eq_of_lt (by omega)]
    by_cases z : i + 1 ≤ (q - 1) / 2 / 2
    · rw [decide_eq_true z, decide_eq_false (by omega)]; rfl
    · rw [decide_eq_false z, decide_eq_true (by omega)]; rfl
  rw [e, xl_xor, xl_true, List.length_range, ← par_count _ _ (by omega), ← par_add]
  unfold par be
  by_cases z : ((q : Int) % 8 = 3 ∨ (q : Int) % 8 = 5)
  · rw [decide_eq_true z, decide_eq_true (by omega)]
  · rw [decide_eq_false z, decide_eq_false (by omega)]
/-! ### Eisenstein -/
theorem eisen {q p : Nat} (h : IsPr q) (h2 : q % 2 = 1) (hp : p % 2 = 1) (ha : ¬ q ∣ p) : mu q p = xl ((half q).map fun k => par (k * p / q)) := by
  have hq := h.1
  have e1 : ∀ k, k ∈ half q → par k = ((par (k * p / q) ^^ gn q p k) ^^ par (gr q p k)) := by
    intro k _
    have e := Nat.div_add_mod (k * p) q
    have hm := Nat.mod_lt (k * p) (show 0 < q by omega)
    have h3 : par (k * p) = par k := by rw [par_mul, show par p = true from decide_eq_true hp, Bool.and_true]
    rw [← h3]
    conv => lhs; rw [← e]
    rw [par_add, par_mul, show par q = true from decide_eq_true h2, Bool.true_and, Bool.xor_assoc]
    congr 1
    unfold gr gn
    by_cases z : k * p % q ≤ (q - 1) / 2
    · rw [if_pos z]; simp [z]
    · rw [if_neg z]
      have : par (k * p % q) = (true ^^ par (q - k * p % q)) := by
        have h5 : par (k * p % q + (q - k * p % q)) = par q := by rw [Nat.add_sub_cancel' (Nat.le_of_lt hm)]
        rw [par_add, show par q = true from decide_eq_true h2] at h5
        revert h5
        generalize par (k * p % q) = s
        generalize par (q - k * p % q) = t
        cases s <;> cases t <;> decide
      rw [this]
      simp [z]
  have e2 : xl ((half q).map par) = ((xl ((half q).map fun k => par (k * p / q)) ^^ mu q p) ^^ xl ((half q).map par)) := by
    have a := xl_congr e1
    rw [xl_xor, xl_xor] at a
    have b : xl ((half q).map fun k => par (gr q p k)) = xl ((half q).map par) := by
      have := xl_perm ((gr_perm h h2 ha).map par)
      rw [List.map_map] at this
      exact this
    rw [b] at a
    exact a
  revert e2
  generalize xl ((half q).map par) = x
  generalize xl ((half q).map fun k => par (k * p / q)) = y
  generalize mu q p = z
  revert x y z; decide
theorem eisen2 {q p : Nat} (h : IsPr q) (h2 : q % 2 = 1) (hp : p % 2 = 1) (ha : ¬ q ∣ p) : mu q p = xl ((half q).map fun k => xl ((half p).map fun l => decide (l * q < k * p))) := by
  have hq := h.1
  rw [eisen h h2 hp ha]
  refine xl_congr fun k hk => ?_
  obtain ⟨k1, k2⟩ := half_mem.mp hk
  have hle : k * p / q ≤ (p - 1) / 2 := by
    have h3 : 2 * (k * p) < q * p := by
      have := Nat.mul_lt_mul_of_pos_right (show 2 * k < q by omega) (show 0 < p by omega)
      rw [Nat.mul_assoc] at this
      exact this
    have h4 : k * p / q * q ≤ k * p := Nat.div_mul_le_self _ _
    rcases Nat.lt_or_ge ((p - 1) / 2) (k * p / q) with z | z
    · exfalso
      have h5 : p ≤ 2 * (k * p / q) := by omega
      have h6 := Nat.mul_le_mul_right q h5
      rw [Nat.mul_assoc] at h6
      rw [Nat.mul_comm q p] at h3
      omega
    · exact z
  rw [par_count _ _ hle]
  unfold half
  rw [List.map_map]
  refine xl_congr fun i hi => ?_
  show decide (i + 1 ≤ k * p / q) = decide ((i + 1) * q < k * p)
  have hne : (i + 1) * q ≠ k * p := fun e => by
    rcases h.mul (show q ∣ k * p from ⟨i + 1, by rw [← e, Nat.mul_comm]⟩) with w | w
    · exact absurd (Nat.le_of_dvd (by omega) w) (by omega)
    · exact ha w
  have hiff : i + 1 ≤ k * p / q ↔ (i + 1) * q ≤ k * p := Nat.le_div_iff_mul_le (by omega)
  by_cases z : (i + 1) * q ≤ k * p
  · rw [decide_eq_true (hiff.mpr z), decide_eq_true (by omega)]
  · rw [decide_eq_false (fun w => z (hiff.mp w)), decide_eq_false (by omega)]
/-- the law of two square signs -/
theorem two_squares {p q : Nat} (hp : IsPr p) (hq : IsPr q) (hp2 : p % 2 = 1) (hq2 : q % 2 = 1) (hne : p ≠ q) : (lam q (p : Int) ^^ lam p (q : Int)) = (par ((p - 1) / 2) && par ((q - 1) / 2)) := by
  have d1 : ¬ q ∣ p := fun z => by
    rcases hp.2 q z with e | e
    · have := hq.1; omega
    · exact hne e.symm
  have d2 : ¬ p ∣ q := fun z => by
    rcases hq.2 p z with e | e
    · have := hp.1; omega
    · exact hne e
  rw [gauss hq hq2 d1, gauss hp hp2 d2, eisen2 hq hq2 hp2 d1, eisen2 hp hp2 hq2 d2, xl_swap, ← xl_xor]
  have e : ∀ l ∈ half p, (xl ((half q).map fun k => decide (l * q < k * p)) ^^ xl ((half q).map fun k => decide (k * p < l * q))) = par ((q - 1) / 2) := by
    intro l hl
    obtain ⟨l1, l2⟩ := half_mem.mp hl
    rw [← xl_xor]
    have hlen : (half q).length = (q - 1) / 2 := by unfold half; simp
    rw [← hlen, ← xl_true (half q)]
    refine xl_congr fun k hk => ?_
    obtain ⟨k1, k2⟩ := half_mem.mp hk
    have hn : l * q ≠ k * p := fun e => by
      rcases hq.mul (show q ∣ k * p from ⟨l, by rw [← e, Nat.mul_comm]⟩) with w | w
      · exact absurd (Nat.le_of_dvd (by omega) w) (by omega)
      · exact d1 w
    rcases Nat.lt_or_gt_of_ne hn with z | z
    · rw [decide_eq_true z, decide_eq_false (by omega)]; rfl
    · rw [decide_eq_true z, decide_eq_false (by omega)]; rfl
  rw [xl_congr e]
  have hlen : (half p).length = (p - 1) / 2 := by unfold half; simp
  rw [← hlen]
  generalize half p = l
  cases par ((q - 1) / 2) with
  | true => rw [xl_true, Bool.and_true]
  | false => rw [xl_false fun _ _ => rfl, Bool.and_false]
end Ar
end FX

set_option Elab.async false
set_option linter.all false
set_option maxRecDepth 100000
set_option maxHeartbeats 2000000
set_option autoImplicit false
/-! FP20: the signs at all places multiply to 1 -/
namespace FX
open PySem
namespace Ar
theorem xl_take {ps : List Nat} {x : Nat} (hx : x ∈ ps) (f : Nat → Bool) : xl (ps.map f) = (f x ^^ xl ((ps.erase x).map f)) :=
  xl_perm ((List.perm_cons_erase hx).map f)
theorem xl_one {ps : List Nat} (hn : ps.Nodup) {x : Nat} (hx : x ∈ ps) {f : Nat → Bool} (h : ∀ y ∈ ps, y ≠ x → f y = false) : xl (ps.map f) = f x := by
  rw [xl_take hx, xl_false, Bool.xor_false]
  intro y hy
  obtain ⟨h1, h2⟩ := hn.mem_erase_iff.mp hy
  exact h y h2 h1
theorem xl_two {ps : List Nat} (hn : ps.Nodup) {x y : Nat} (hx : x ∈ ps) (hy : y ∈ ps) (hxy : y ≠ x) {f : Nat → Bool} (h : ∀ z ∈ ps, z ≠ x → z ≠ y → f z = false) : xl (ps.map f) = (f x ^^ f y) := by
  rw [xl_take hx, xl_one (hn.erase x) (hn.mem_erase_iff.mpr ⟨hxy, hy⟩)]
  intro z hz hzy
  obtain ⟨h1, h2⟩ := hn.mem_erase_iff.mp hz
  exact h z h2 h1 hzy
theorem xl_three {ps : List Nat} (hn : ps.Nodup) {x y w : Nat} (hx : x ∈ ps) (hy : y ∈ ps) (hw : w ∈ ps) (hxy : y ≠ x) (hxw : w ≠ x) (hyw : w ≠ y) {f : Nat → Bool} (h : ∀ z ∈ ps, z ≠ x → z ≠ y → z ≠ w → f z = false) : xl (ps.map f) = (f x ^^ (f y ^^ f w)) := by
  rw [xl_take hx, xl_two (hn.erase x) (hn.mem_erase_iff.mpr ⟨hxy, hy⟩) (hn.mem_erase_iff.mpr ⟨hxw, hw⟩) hyw]
  intro z hz hzy hzw
  obtain ⟨h1, h2⟩ := hn.mem_erase_iff.mp hz
  exact h z h2 h1 hzy hzw
structure Places (ps : List Nat) : Prop where
  nodup : ps.Nodup
  place : ∀ q ∈ ps, Place q
  zero : 0 ∈ ps
  two : 2 ∈ ps
def Tt (ps : List Nat) (a b : Int) : Bool := xl (ps.map fun q => Sg q a b)
section
variable {ps : List Nat} (P : Places ps)
include P
theorem Tt_comm (a b : Int) : Tt ps a b = Tt ps b a := xl_congr fun q _ => Sg_comm q a b
theorem Tt_mul {a b c : Int} (ha : a ≠ 0) (hb : b ≠ 0) (hc : c ≠ 0) : Tt ps a (b * c) = (Tt ps a b ^^ Tt ps a c) := by
  unfold Tt
  rw [← xl_xor]
  exact xl_congr fun q hq => Sg_mul (P.place q hq) ha hb hc
theorem Tt_neg {a : Int} (ha : a ≠ 0) : Tt ps a (-a) = false := xl_false fun q hq => Sg_neg (P.place q hq) ha
theorem Tt_one {a : Int} (ha : a ≠ 0) : Tt ps a 1 = false := xl_false fun q hq => Sg_sq (b := 1) (P.place q hq) ha (by decide)
end
theorem odd_unit2 {a : Int} (h : a % 2 = 1) : EE 2 a = 0 ∧ UU 2 a = a := EU_unit (by decide) (by omega)
theorem self_EU {p : Nat} (h : 2 ≤ p) : EE p (p : Int) = 1 ∧ UU p (p : Int) = 1 := EU_of (k := 1) h (by rw [Nat.pow_one, Int.mul_one]) (fun z => by
  have := Nat.le_of_dvd (by decide) (Int.ofNat_dvd_left.mp z)
  simp at this
  omega)
theorem Sg2_odd {a b : Int} (ha : a % 2 = 1) (hb : b % 2 = 1) : Sg 2 a b = (al a && al b) := by
  unfold Sg
  rw [if_neg (by decide), if_pos rfl, (odd_unit2 ha).1, (odd_unit2 ha).2, (odd_unit2 hb).1, (odd_unit2 hb).2]
  show (_ ^^ ((false && _) ^^ (false && _))) = _
  simp
theorem Sg2_two {a : Int} (ha : a % 2 = 1) : Sg 2 a 2 = be a := by
  have e := self_EU (p := 2) (by decide)
  rw [show ((2 : Nat) : Int) = 2 from rfl] at e
  unfold Sg
  rw [if_neg (by decide), if_pos rfl, (odd_unit2 ha).1, (odd_unit2 ha).2, e.1, e.2]
  show ((al a && al 1) ^^ ((false && _) ^^ (true && be a))) = _
  rw [show al 1 = false from by decide]
  simp
theorem Sg_self {p : Nat} (h : IsPr p) (h2 : p ≠ 2) {a : Int} (ha : ¬ (p : Int) ∣ a) : Sg p a (p : Int) = lam p a := by
  have hp := h.1
  have e := self_EU hp
  have u := EU_unit hp ha
  unfold Sg
  rw [if_neg (by omega), if_neg h2, e.1, e.2, u.1, u.2]
  show (((false && true && par ((p - 1) / 2)) ^^ (true && lam p a)) ^^ (false && lam p 1)) = _
  simp
theorem ndvd {p : Nat} (h : 2 ≤ p) {a : Int} (h0 : a ≠ 0) (hl : a.natAbs < p) : ¬ (p : Int) ∣ a := fun z => h0 (small_dvd0 z hl)
theorem ndvd_pr {p q : Nat} (hp : IsPr p) (hq : IsPr q) (hne : q ≠ p) : ¬ (q : Int) ∣ (p : Int) := fun z => by
  rcases hp.2 q (Int.natCast_dvd_natCast.mp z) with e | e
  · have := hq.1; omega
  · exact hne e
theorem odd_i {p : Nat} (h : p % 2 = 1) : (p : Int) % 2 = 1 := by omega
theorem al_par {p : Nat} (h : p % 2 = 1) : al (p : Int) = par ((p - 1) / 2) := by
  unfold al par
  by_cases z : (p : Int) % 4 = 3
  · rw [decide_eq_true z, decide_eq_true (by omega)]
  · rw [decide_eq_false z, decide_eq_false (by omega)]
section
variable {ps : List Nat} (P : Places ps)
include P
theorem Tt_m1m1 : Tt ps (-1) (-1) = false := by
  unfold Tt
  rw [xl_two P.nodup P.zero P.two (by decide)]
  · decide
  · intro q hq h0 h2
    have hp := (P.place q hq).resolve_left h0
    exact Sg_units hp h2 (ndvd hp.1 (by decide) hp.1) (ndvd hp.1 (by decide) hp.1)
theorem Tt_m12 : Tt ps (-1) 2 = false := xl_false fun q hq => by
  rcases P.place q hq with h | hp
  · subst h; decide
  · by_cases h2 : q = 2
    · subst h2
      rw [Sg2_two (by decide)]
      decide
    · have := hp.1
      exact Sg_units hp h2 (ndvd hp.1 (by decide) hp.1) (ndvd hp.1 (by decide) (by show 2 < q; omega))
theorem Tt_m1p {p : Nat} (hp : IsPr p) (h2 : p ≠ 2) (hm : p ∈ ps) : Tt ps (-1) p = false := by
  have h0 := hp.1
  have ho := hp.odd h2
  unfold Tt
  rw [xl_two P.nodup P.two hm h2]
  · rw [Sg2_odd (by decide) (odd_i ho), Sg_self hp h2 (ndvd (a := -1) h0 (by decide) (by show 1 < p; omega)), lam_neg1 (by omega), al_par ho, show al (-1) = true from by decide]
    simp
  · intro q hq hq2 hqp
    rcases P.place q hq with h | hq'
    · subst h
      show (decide ((-1 : Int) < 0) && decide ((p : Int) < 0)) = false
      rw [decide_eq_false (show ¬ (p : Int) < 0 by omega), Bool.and_false]
    · exact Sg_units hq' hq2 (ndvd hq'.1 (by decide) hq'.1) (ndvd_pr hp hq' hqp)
theorem Tt_2p {p : Nat} (hp : IsPr p) (h2 : p ≠ 2) (hm : p ∈ ps) : Tt ps 2 p = false := by
  have h0 := hp.1
  have ho := hp.odd h2
  unfold Tt
  rw [xl_two P.nodup P.two hm h2]
  · rw [Sg_comm 2, Sg2_two (odd_i ho), Sg_self hp h2 (ndvd (a := 2) h0 (by decide) (by show 2 < p; omega)), lam_two hp ho]
    simp
  · intro q hq hq2 hqp
    rcases P.place q hq with h | hq'
    · subst h
      show (decide ((2 : Int) < 0) && decide ((p : Int) < 0)) = false
      simp
    · have := hq'.1
      exact Sg_units hq' hq2 (ndvd hq'.1 (by decide) (by show 2 < q; omega)) (ndvd_pr hp hq' hqp)
theorem Tt_pr {p r : Nat} (hp : IsPr p) (h2 : p ≠ 2) (hm : p ∈ ps) (hr : IsPr r) (hr2 : r ≠ 2) (hrm : r ∈ ps) (hne : p ≠ r) : Tt ps p r = false := by
  have h0 := hp.1
  have ho := hp.odd h2
  have hro := hr.odd hr2
  unfold Tt
  rw [xl_three P.nodup P.two hm hrm h2 hr2 hne.symm]
  · rw [Sg2_odd (odd_i ho) (odd_i hro), Sg_comm p, Sg_self hp h2 (ndvd_pr hr hp hne), Sg_self hr hr2 (ndvd_pr hp hr hne.symm), al_par ho, al_par hro]
    have q := two_squares hr hp hro ho hne.symm
    revert q
    generalize lam p (r : Int) = x
    generalize lam r (p : Int) = y
    generalize par ((p - 1) / 2) = z
    generalize par ((r - 1) / 2) = w
    revert x y z w; decide
  · intro q hq hq2 hqp hqr
    rcases P.place q hq with h | hq'
    · subst h
      show (decide ((p : Int) < 0) && decide ((r : Int) < 0)) = false
      rw [decide_eq_false (show ¬ (p : Int) < 0 by omega)]; rfl
    · exact Sg_units hq' hq2 (ndvd_pr hp hq' hqp) (ndvd_pr hr hq' hqr)
theorem Tt_self {a : Int} (ha : a ≠ 0) : Tt ps a a = Tt ps (-1) a := by
  have h := Tt_neg P ha
  rw [show -a = (-1) * a by omega, Tt_mul P ha (by decide) ha, Tt_comm P a (-1)] at h
  revert h
  generalize Tt ps a a = x
  generalize Tt ps (-1) a = y
  revert x y; decide
end
theorem exists_prime : ∀ (m n : Nat), n ≤ m → 2 ≤ n → ∃ r, IsPr r ∧ r ∣ n
  | 0, n, h, h2 => absurd h (by omega)
  | m + 1, n, h, h2 => by
    by_cases hp : IsPr n
    · exact ⟨n, hp, Nat.dvd_refl _⟩
    · have : ∃ d, d ∣ n ∧ d ≠ 1 ∧ d ≠ n := Classical.byContradiction fun z => hp ⟨h2, fun d hd => by
        by_cases h1 : d = 1
        · exact .inl h1
        · exact .inr (Classical.byContradiction fun h3 => z ⟨d, hd, h1, h3⟩)⟩
      obtain ⟨d, hd, h1, h3⟩ := this
      have hle := Nat.le_of_dvd (by omega) hd
      have hd0 : d ≠ 0 := fun z => by rw [z] at hd; have := Nat.eq_zero_of_zero_dvd hd; omega
      obtain ⟨r, hr, hrd⟩ := exists_prime m d (by omega) (by omega)
      exact ⟨r, hr, Nat.dvd_trans hrd hd⟩
/-- all odd primes that divide are among the places -/
def Has (ps : List Nat) (a : Int) : Prop := ∀ r, IsPr r → r ≠ 2 → (r : Int) ∣ a → r ∈ ps
section
variable {ps : List Nat} (P : Places ps)
include P
theorem Tt_gen {a : Int} (ha : a ≠ 0) (h1 : Tt ps a (-1) = false) (h2 : Tt ps a 2 = false) (hp : ∀ p, IsPr p → p ≠ 2 → p ∈ ps → Tt ps a p = false) : ∀ (m : Nat) (b : Int), b.natAbs ≤ m → b ≠ 0 → Has ps b → Tt ps a b = false
  | 0, b, h, h0, _ => absurd h (by omega)
  | m + 1, b, h, h0, hb => by
    by_cases hs : b.natAbs = 1
    · rcases (show b = 1 ∨ b = -1 by omega) with rfl | rfl
      · exact Tt_one P ha
      · exact h1
    · obtain ⟨r, hr, hrd⟩ := exists_prime _ b.natAbs (Nat.le_refl _) (by omega)
      obtain ⟨c, rfl⟩ := Int.ofNat_dvd_left.mpr hrd
      have hr2 := hr.1
      have hc : c ≠ 0 := fun z => h0 (by rw [z, Int.mul_zero])
      have hle : 2 * c.natAbs ≤ r * c.natAbs := Nat.mul_le_mul_right _ hr2
      rw [Int.natAbs_mul, Int.natAbs_natCast] at h hs
      rw [Tt_mul P ha (by omega) hc, Tt_gen ha h1 h2 hp m c (by omega) hc fun r' h1 h2 h3 => hb r' h1 h2 (Int.dvd_trans h3 (Int.dvd_mul_left _ _)), Bool.xor_false]
      by_cases e : r = 2
      · subst e; exact h2
      · exact hp r hr e (hb r hr e (Int.dvd_mul_right _ _))
/-- the signs at all places multiply to 1 -/
theorem Tt_all {a b : Int} (ha : a ≠ 0) (hb : b ≠ 0) (Ha : Has ps a) (Hb : Has ps b) : Tt ps a b = false := by
  have two : Tt ps 2 2 = false := by rw [Tt_self P (by decide)]; exact Tt_m12 P
  have m1 : ∀ b : Int, b ≠ 0 → Has ps b → Tt ps (-1) b = false := fun b hb Hb => Tt_gen P (by decide) (Tt_m1m1 P) (Tt_m12 P) (fun p h1 h2 h3 => Tt_m1p P h1 h2 h3) _ b (Nat.le_refl _) hb Hb
  have t2 : ∀ b : Int, b ≠ 0 → Has ps b → Tt ps 2 b = false := fun b hb Hb => Tt_gen P (by decide) (by rw [Tt_comm P]; exact Tt_m12 P) two (fun p h1 h2 h3 => Tt_2p P h1 h2 h3) _ b (Nat.le_refl _) hb Hb
  have tp : ∀ (p : Nat), IsPr p → p ≠ 2 → p ∈ ps → ∀ b : Int, b ≠ 0 → Has ps b → Tt ps p b = false := fun p h1 h2 h3 b hb Hb => by
    have h0 := h1.1
    refine Tt_gen P (by omega) (by rw [Tt_comm P]; exact Tt_m1p P h1 h2 h3) (by rw [Tt_comm P]; exact Tt_2p P h1 h2 h3) (fun r k1 k2 k3 => ?_) _ b (Nat.le_refl _) hb Hb
    by_cases e : p = r
    · subst e
      rw [Tt_self P (by omega)]
      exact Tt_m1p P h1 h2 h3
    · exact Tt_pr P h1 h2 h3 k1 k2 k3 e
  rw [Tt_comm P]
  refine Tt_gen P hb (by rw [Tt_comm P]; exact m1 b hb Hb) (by rw [Tt_comm P]; exact t2 b hb Hb) (fun p h1 h2 h3 => by rw [Tt_comm P]; exact tp p h1 h2 h3 b hb Hb) _ a (Nat.le_refl _) ha Ha
end
end Ar
end FX

set_option Elab.async false
set_option linter.all false
set_option maxRecDepth 100000
set_option maxHeartbeats 2000000
set_option autoImplicit false
/-! FP21: few roots modulo a prime; squares are what the power tells -/
namespace FX
open PySem
namespace Ar
/-- the value of a row of coefficients, the lowest first -/
def pw : List Int → Int → Int
  | [], _ => 0
  | c :: l, x => c + x * pw l x
def addr (r : Int) : List Int → List Int → List Int
  | l, [] => l
  | [], m => m.map (r * ·)
  | c :: l, d :: m => (c + r * d) :: addr r l m
theorem pw_map (r x : Int) : ∀ m : List Int, pw (m.map (r * ·)) x = r * pw m x
  | [] => by simp [pw]
  | d :: m => by
    show r * d + x * pw (m.map (r * ·)) x = r * (d + x * pw m x)
    rw [pw_map r x m]; grind
theorem pw_addr (r x : Int) : ∀ l m : List Int, pw (addr r l m) x = pw l x + r * pw m x
  | l, [] => by cases l <;> simp [addr, pw]
  | [], d :: m => by
    show pw ((d :: m).map (r * ·)) x = 0 + r * pw (d :: m) x
    rw [pw_map, Int.zero_add]
  | c :: l, d :: m => by
    show (c + r * d) + x * pw (addr r l m) x = (c + x * pw l x) + r * (d + x * pw m x)
    rw [pw_addr r x l m]; grind
theorem last_cons {x y : Int} {l m : List Int} (hl : l.length = m.length) (h : l.getLast? = m.getLast?) (h0 : m ≠ []) : (x :: l).getLast? = (y :: m).getLast? := by
  cases m with
  | nil => exact absurd rfl h0
  | cons e t =>
    cases l with
    | nil => simp at hl
    | cons e' t' => rw [List.getLast?_cons_cons, List.getLast?_cons_cons, h]
theorem ipow_mod (a b : Int) : ∀ n : Nat, a ^ n % b = (a % b) ^ n % b
  | 0 => by rw [Int.pow_zero, Int.pow_zero]
  | n + 1 => by rw [Int.pow_succ, Int.pow_succ, Int.mul_emod, ipow_mod a b n, Int.mul_emod ((a % b) ^ n), Int.emod_emod]
theorem addr_len (r : Int) : ∀ l m : List Int, m.length < l.length → (addr r l m).length = l.length ∧ (addr r l m).getLast? = l.getLast?
  | l, [], _ => by cases l <;> exact ⟨rfl, rfl⟩
  | [], d :: m, h => absurd h (by simp)
  | c :: l, d :: m, h => by
    have h' : m.length < l.length := by simpa using h
    obtain ⟨h1, h2⟩ := addr_len r l m h'
    refine ⟨congrArg (· + 1) h1, ?_⟩
    exact last_cons h1 h2 fun z => by rw [z] at h'; simp at h'
def synth (r : Int) : List Int → List Int
  | [] => []
  | [_] => []
  | _ :: c :: l => addr r (c :: l) (synth r (c :: l))
theorem synth_ok (r : Int) : ∀ (l : List Int), (synth r l).length = l.length - 1 ∧ (2 ≤ l.length → (synth r l).getLast? = l.getLast?) ∧ ∀ x, pw l x - pw l r = (x - r) * pw (synth r l) x
  | [] => ⟨rfl, fun h => absurd h (by simp), fun x => by simp [pw, synth]⟩
  | [c] => ⟨rfl, fun h => absurd h (by simp), fun x => by simp [pw, synth]⟩
  | b :: c :: l => by
    obtain ⟨h1, h2, h3⟩ := synth_ok r (c :: l)
    have hlt : (synth r (c :: l)).length < (c :: l).length := by rw [h1]; simp
    obtain ⟨k1, k2⟩ := addr_len r (c :: l) (synth r (c :: l)) hlt
    refine ⟨by rw [synth, k1]; rfl, fun _ => by rw [synth, k2, List.getLast?_cons_cons], fun x => ?_⟩
    rw [synth, pw_addr]
    have h := h3 x
    show (b + x * pw (c :: l) x) - (b + r * pw (c :: l) r) = _
    generalize pw (c :: l) x = u at *
    generalize pw (c :: l) r = v at *
    generalize pw (synth r (c :: l)) x = w at *
    have : v = u - (x - r) * w := by omega
    rw [this]
    grind
/-- no more roots than the degree -/
theorem few_roots {q : Nat} (h : IsPr q) : ∀ (n : Nat) (l : List Int) (rs : List Int), l.length = n + 1 → (∀ t, l.getLast? = some t → ¬ (q : Int) ∣ t) → rs.Pairwise (fun a b => ¬ (q : Int) ∣ a - b) → (∀ r ∈ rs, (q : Int) ∣ pw l r) → rs.length ≤ n
  | n, l, [], _, _, _, _ => Nat.zero_le _
  | 0, l, r :: rs, hl, ht, _, hr => by
    exfalso
    match l, hl with
    | [t], _ =>
      have := hr r (List.mem_cons_self)
      refine ht t rfl ?_
      have e : pw [t] r = t := by simp [pw]
      rwa [e] at this
  | n + 1, l, r :: rs, hl, ht, hp, hr => by
    obtain ⟨h1, h2, h3⟩ := synth_ok r l
    obtain ⟨p1, p2⟩ := List.pairwise_cons.mp hp
    have := few_roots h n (synth r l) rs (by omega) (fun t e => ht t (by rw [← h2 (by omega)]; exact e)) p2 fun s hs => by
      have e := h3 s
      have d : (q : Int) ∣ pw l s - pw l r := Int.dvd_sub (hr s (List.mem_cons_of_mem _ hs)) (hr r (List.mem_cons_self))
      rw [e] at d
      refine (h.imul d).resolve_left fun z => p1 s hs ?_
      have := (Int.dvd_neg (a := (q : Int))).mpr z
      rwa [show -(s - r) = r - s by omega] at this
    simpa using this
/-- x ^ n - 1 -/
def pone (n : Nat) : List Int := List.replicate n 0 ++ [1]
theorem pw_zero (x : Int) : ∀ n, pw (pone n) x = x ^ n
  | 0 => by simp [pone, pw]
  | n + 1 => by
    show 0 + x * pw (pone n) x = _
    rw [pw_zero x n, Int.pow_succ]
    grind
theorem pone_last (n : Nat) : (pone n).getLast? = some 1 := by simp [pone]
theorem lam_pow {q : Nat} {a : Int} (h : IsPr q) (h2 : q % 2 = 1) (hl : lam q a = false) : (q : Int) ∣ a ^ ((q - 1) / 2) - 1 := by
  have hq := h.1
  unfold lam at hl
  have hl : (a % (q : Int)).toNat ^ ((q - 1) / 2) % q = 1 := by simpa using hl
  have h0 : 0 ≤ a % (q : Int) := Int.emod_nonneg _ (by omega)
  refine Int.dvd_of_emod_eq_zero (Int.emod_eq_emod_iff_emod_sub_eq_zero.mp ?_)
  rw [show (1 : Int) % (q : Int) = 1 from Int.emod_eq_of_lt (by decide) (by omega)]
  generalize (q - 1) / 2 = n at *
  have e : a ^ n % (q : Int) = (((a % (q : Int)).toNat ^ n % q : Nat) : Int) := by
    rw [Int.natCast_emod, Int.natCast_pow, Int.toNat_of_nonneg h0, ipow_mod]
  rw [e, hl]; rfl
theorem lam_square {q : Nat} {k : Int} (h : IsPr q) (h2 : q % 2 = 1) (hk : ¬ (q : Int) ∣ k) : lam q (k * k) = false := by
  rw [lam_mul h h2 hk hk]; cases lam q k <;> rfl
/-- where the power is 1 there is a square -/
theorem square_of {q : Nat} {a : Int} (h : IsPr q) (h2 : q % 2 = 1) (ha : ¬ (q : Int) ∣ a) (hl : lam q a = false) : ∃ k : Nat, 1 ≤ k ∧ k < q ∧ (q : Int) ∣ (k : Int) * k - a := by
  have hq := h.1
  refine Classical.byContradiction fun hno => ?_
  have hno : ∀ k ∈ half q, ¬ (q : Int) ∣ (k : Int) * k - a := fun k hk hd => hno ⟨k, by
    obtain ⟨k1, k2⟩ := half_mem.mp hk
    exact ⟨k1, by omega, hd⟩⟩
  have hkd : ∀ k ∈ half q, ¬ (q : Int) ∣ (k : Int) := fun k hk hd => by
    obtain ⟨k1, k2⟩ := half_mem.mp hk
    have := Nat.le_of_dvd (by omega) (Int.natCast_dvd_natCast.mp hd)
    omega
  obtain ⟨n, hn⟩ : ∃ n, (q - 1) / 2 = n + 1 := ⟨(q - 1) / 2 - 1, by omega⟩
  have := few_roots h (n + 1) ((-1 : Int) :: pone n) (a :: (half q).map fun k : Nat => (k : Int) * k) (by simp [pone]) (fun t e => ?_) (List.pairwise_cons.mpr ⟨?_, ?_⟩) (fun r hr => ?_)
  · have hlen : (half q).length = (q - 1) / 2 := by unfold half; simp
    rw [List.length_cons, List.length_map, hlen] at this
    omega
  · have e1 : ((-1 : Int) :: pone n).getLast? = some 1 := by
      have := pone_last n
      cases hp : pone n with
      | nil => rw [hp] at this; cases this
      | cons c t => rw [hp] at this; rw [List.getLast?_cons_cons]; exact this
    rw [e1] at e
    cases e
    exact ndvd hq (by decide) hq
  · intro s hs hd
    obtain ⟨k, hk, rfl⟩ := List.mem_map.mp hs
    have := (Int.dvd_neg (a := (q : Int))).mpr hd
    rw [show -(a - (k : Int) * k) = (k : Int) * k - a by omega] at this
    exact hno k hk this
  · refine List.pairwise_map.mpr ((half_nodup q).imp_of_mem fun {x y} hx hy hne hd => ?_)
    obtain ⟨x1, x2⟩ := half_mem.mp hx
    obtain ⟨y1, y2⟩ := half_mem.mp hy
    rw [show (x : Int) * x - y * y = (x - y) * (x + y) by grind] at hd
    rcases h.imul hd with z | z
    · have := small_dvd0 z (by omega); omega
    · have := small_dvd0 z (by omega); omega
  · have e : ∀ r, pw ((-1 : Int) :: pone n) r = r ^ ((q - 1) / 2) - 1 := fun r => by
      show -1 + r * pw (pone n) r = _
      rw [pw_zero, hn, Int.pow_succ]
      grind
    rw [e]
    rcases List.mem_cons.mp hr with rfl | hr
    · exact lam_pow h h2 hl
    · obtain ⟨k, hk, rfl⟩ := List.mem_map.mp hr
      exact lam_pow h h2 (lam_square h h2 (hkd k hk))
end Ar
end FX

set_option Elab.async false
set_option linter.all false
set_option maxRecDepth 100000
set_option maxHeartbeats 2000000
set_option autoImplicit false
/-! FP22: where a + c is a square the signs of a and c are 1; roots modulo the primes of a form; the descent's algebra -/
namespace FX
open PySem
namespace Ar
theorem powI (p a b : Nat) : ((p ^ (a + b) : Nat) : Int) = ((p ^ a : Nat) : Int) * ((p ^ b : Nat) : Int) := by rw [Nat.pow_add, Int.natCast_mul]
theorem dvd_powI {p d : Nat} (h : 1 ≤ d) : (p : Int) ∣ ((p ^ d : Nat) : Int) := Int.natCast_dvd_natCast.mpr ⟨p ^ (d - 1), by rw [← Nat.pow_succ']; congr 1; omega⟩
theorem st_lt {p : Nat} (hp : IsPr p) {a c r : Int} (ha : a ≠ 0) (hc : c ≠ 0) (e : a + c = r * r) (hlt : EE p a < EE p c) :
    par (EE p a) = false ∧ ∃ (d : Nat) (t : Int), 1 ≤ d ∧ EE p c = EE p a + d ∧ UU p a + ((p ^ d : Nat) : Int) * UU p c = t * t ∧ ¬ (p : Int) ∣ t := by
  obtain ⟨e1, n1⟩ := EU_spec hp.1 ha
  obtain ⟨e2, n2⟩ := EU_spec hp.1 hc
  obtain ⟨d, hd⟩ : ∃ d, EE p c = EE p a + d := ⟨EE p c - EE p a, by omega⟩
  have hd1 : 1 ≤ d := by omega
  generalize UU p a = u at *
  generalize UU p c = w at *
  rw [hd] at e2
  have key : r * r = ((p ^ EE p a : Nat) : Int) * (u + ((p ^ d : Nat) : Int) * w) := by
    rw [← e]
    conv => lhs; rw [e1, e2, powI]
    rw [Int.mul_add, Int.mul_assoc]
  have hn : ¬ (p : Int) ∣ (u + ((p ^ d : Nat) : Int) * w) := fun z => n1 ((Int.dvd_add_left (Int.dvd_mul_of_dvd_left (dvd_powI hd1))).mp z)
  have hr : r ≠ 0 := fun z => by
    rw [z, Int.zero_mul] at key
    rcases Int.mul_eq_zero.mp key.symm with q | q
    · have : 0 < p ^ EE p a := Nat.pow_pos (by have := hp.1; omega)
      omega
    · exact hn (by rw [q]; exact Int.dvd_zero _)
  obtain ⟨f1, f2⟩ := EU_of hp.1 key hn
  obtain ⟨g1, g2⟩ := EU_mul hp hr hr
  refine ⟨?_, d, UU p r, hd1, hd, by rw [← f2, g2], (EU_spec hp.1 hr).2⟩
  rw [← f1, g1, par_add]; cases par (EE p r) <;> rfl
theorem st_eq {p : Nat} (hp : IsPr p) {a c r : Int} (ha : a ≠ 0) (hc : c ≠ 0) (hr : r ≠ 0) (e : a + c = r * r) (heq : EE p c = EE p a) :
    ∃ (d : Nat) (t : Int), par (EE p a) = par d ∧ UU p a + UU p c = ((p ^ d : Nat) : Int) * (t * t) ∧ ¬ (p : Int) ∣ t := by
  obtain ⟨e1, n1⟩ := EU_spec hp.1 ha
  obtain ⟨e2, n2⟩ := EU_spec hp.1 hc
  rw [heq] at e2
  generalize UU p a = u at *
  generalize UU p c = w at *
  have key : r * r = ((p ^ EE p a : Nat) : Int) * (u + w) := by
    rw [← e]
    conv => lhs; rw [e1, e2]
    rw [Int.mul_add]
  have hs : u + w ≠ 0 := fun z => hr (by
    rw [z, Int.mul_zero] at key
    rcases Int.mul_eq_zero.mp key with q | q <;> exact q)
  obtain ⟨e3, n3⟩ := EU_spec hp.1 hs
  obtain ⟨f1, f2⟩ := EU_of (q := p) (k := EE p a + EE p (u + w)) (n := r * r) (u := UU p (u + w)) hp.1 (by rw [key, powI, Int.mul_assoc, ← e3]) n3
  obtain ⟨g1, g2⟩ := EU_mul hp hr hr
  refine ⟨EE p (u + w), UU p r, ?_, by rw [← g2, f2]; exact e3, (EU_spec hp.1 hr).2⟩
  have h1 : par (EE p a + EE p (u + w)) = false := by
    rw [← f1, g1, par_add]; cases par (EE p r) <;> rfl
  rw [par_add] at h1
  revert h1
  cases par (EE p a) <;> cases par (EE p (u + w)) <;> decide
theorem sq8 {t : Int} (h : ¬ ((2 : Nat) : Int) ∣ t) : t * t % 8 = 1 := by
  have e : t * t % 8 = (t % 8) * (t % 8) % 8 := Int.mul_emod t t 8
  rw [e]
  rcases odd8 h with h | h | h | h <;> rw [h] <;> decide
theorem pow8 {d : Nat} (h : 3 ≤ d) : ∃ k : Int, ((2 ^ d : Nat) : Int) = 8 * k := ⟨((2 ^ (d - 3) : Nat) : Int), by
  obtain ⟨e, rfl⟩ : ∃ e, d = 3 + e := ⟨d - 3, by omega⟩
  rw [powI, Nat.add_sub_cancel_left]; rfl⟩
theorem al_be {u : Int} {r : Int} (h : u % 8 = r) : al u = decide (r % 4 = 3) ∧ be u = decide (r = 3 ∨ r = 5) := ⟨al_of h, by unfold be; rw [h]⟩
/-- a at 2, the first case -/
theorem st2_lt {u w t : Int} {d : Nat} {x : Bool} (hd : 1 ≤ d) (hu : ¬ ((2 : Nat) : Int) ∣ u) (hw : ¬ ((2 : Nat) : Int) ∣ w) (ht : ¬ ((2 : Nat) : Int) ∣ t) (e : u + ((2 ^ d : Nat) : Int) * w = t * t) : ((al u && al w) ^^ ((false && be w) ^^ (par d && be u))) = false := by
  have h8 := sq8 ht
  rw [← e] at h8
  have hw8 := odd8 hw
  by_cases h3 : 3 ≤ d
  · obtain ⟨k, hk⟩ := pow8 h3
    rw [hk, Int.mul_assoc] at h8
    obtain ⟨a1, a2⟩ := al_be (u := u) (r := 1) (by omega)
    rw [a1, a2]; simp
  · have : d = 1 ∨ d = 2 := by omega
    rcases this with rfl | rfl
    · have h8 : (u + 2 * w) % 8 = 1 := h8
      rcases hw8 with h | h | h | h
      · obtain ⟨a1, a2⟩ := al_be (u := u) (r := 7) (by omega)
        obtain ⟨b1, b2⟩ := al_be h
        rw [a1, a2, b1, Bool.false_and]; decide
      · obtain ⟨a1, a2⟩ := al_be (u := u) (r := 3) (by omega)
        obtain ⟨b1, b2⟩ := al_be h
        rw [a1, a2, b1, Bool.false_and]; decide
      · obtain ⟨a1, a2⟩ := al_be (u := u) (r := 7) (by omega)
        obtain ⟨b1, b2⟩ := al_be h
        rw [a1, a2, b1, Bool.false_and]; decide
      · obtain ⟨a1, a2⟩ := al_be (u := u) (r := 3) (by omega)
        obtain ⟨b1, b2⟩ := al_be h
        rw [a1, a2, b1, Bool.false_and]; decide
    · have h8 : (u + 4 * w) % 8 = 1 := h8
      obtain ⟨a1, a2⟩ := al_be (u := u) (r := 5) (by omega)
      rw [a1, a2, show par 2 = false from by decide]; simp
theorem st2_eq {u w t : Int} {d : Nat} {x : Bool} (hx : x = par d) (hu : ¬ ((2 : Nat) : Int) ∣ u) (hw : ¬ ((2 : Nat) : Int) ∣ w) (ht : ¬ ((2 : Nat) : Int) ∣ t) (e : u + w = ((2 ^ d : Nat) : Int) * (t * t)) : ((al u && al w) ^^ ((x && be w) ^^ (x && be u))) = false := by
  have h8 := sq8 ht
  have hu8 := odd8 hu
  have hw8 := odd8 hw
  have hd0 : d ≠ 0 := fun z => by
    subst z
    have e : u + w = 1 * (t * t) := e
    omega
  by_cases h3 : 3 ≤ d
  · obtain ⟨k, hk⟩ := pow8 h3
    rw [hk, Int.mul_assoc] at e
    have hs : (u + w) % 8 = 0 := by omega
    rcases hu8 with h | h | h | h
    · obtain ⟨a1, a2⟩ := al_be h
      obtain ⟨b1, b2⟩ := al_be (u := w) (r := 7) (by omega)
      rw [a1, a2, b1, b2]; cases x <;> decide
    · obtain ⟨a1, a2⟩ := al_be h
      obtain ⟨b1, b2⟩ := al_be (u := w) (r := 5) (by omega)
      rw [a1, a2, b1, b2]; cases x <;> decide
    · obtain ⟨a1, a2⟩ := al_be h
      obtain ⟨b1, b2⟩ := al_be (u := w) (r := 3) (by omega)
      rw [a1, a2, b1, b2]; cases x <;> decide
    · obtain ⟨a1, a2⟩ := al_be h
      obtain ⟨b1, b2⟩ := al_be (u := w) (r := 1) (by omega)
      rw [a1, a2, b1, b2]; cases x <;> decide
  · have : d = 1 ∨ d = 2 := by omega
    rcases this with rfl | rfl
    · have e : u + w = 2 * (t * t) := e
      have hs : (u + w) % 8 = 2 := by omega
      rw [show par 1 = true from by decide] at hx
      rcases hu8 with h | h | h | h
      · obtain ⟨a1, a2⟩ := al_be h
        obtain ⟨b1, b2⟩ := al_be (u := w) (r := 1) (by omega)
        rw [a1, a2, b1, b2, hx]; decide
      · obtain ⟨a1, a2⟩ := al_be h
        obtain ⟨b1, b2⟩ := al_be (u := w) (r := 7) (by omega)
        rw [a1, a2, b1, b2, hx]; decide
      · obtain ⟨a1, a2⟩ := al_be h
        obtain ⟨b1, b2⟩ := al_be (u := w) (r := 5) (by omega)
        rw [a1, a2, b1, b2, hx]; decide
      · obtain ⟨a1, a2⟩ := al_be h
        obtain ⟨b1, b2⟩ := al_be (u := w) (r := 3) (by omega)
        rw [a1, a2, b1, b2, hx]; decide
    · have e : u + w = 4 * (t * t) := e
      rw [show par 2 = false from by decide] at hx
      have hs : (u + w) % 8 = 4 := by omega
      rcases hu8 with h | h | h | h
      · obtain ⟨a1, a2⟩ := al_be h
        obtain ⟨b1, b2⟩ := al_be (u := w) (r := 3) (by omega)
        rw [a1, a2, b1, b2, hx]; decide
      · obtain ⟨a1, a2⟩ := al_be h
        obtain ⟨b1, b2⟩ := al_be (u := w) (r := 1) (by omega)
        rw [a1, a2, b1, b2, hx]; decide
      · obtain ⟨a1, a2⟩ := al_be h
        obtain ⟨b1, b2⟩ := al_be (u := w) (r := 7) (by omega)
        rw [a1, a2, b1, b2, hx]; decide
      · obtain ⟨a1, a2⟩ := al_be h
        obtain ⟨b1, b2⟩ := al_be (u := w) (r := 5) (by omega)
        rw [a1, a2, b1, b2, hx]; decide
theorem st_half {p : Nat} (hp : IsPr p) {a c r : Int} (ha : a ≠ 0) (hc : c ≠ 0) (e : a + c = r * r) (hlt : EE p a < EE p c) : Sg p a c = false := by
  have hp2 := hp.1
  obtain ⟨h1, d, t, hd, hE, ht, hn⟩ := st_lt hp ha hc e hlt
  have na := (EU_spec hp.1 ha).2
  have nc := (EU_spec hp.1 hc).2
  unfold Sg
  rw [if_neg (by omega)]
  have hE2 : par (EE p c) = par d := by rw [hE, par_add, h1, Bool.false_xor]
  rw [h1, hE2]
  by_cases h2 : p = 2
  · rw [if_pos h2]
    rw [h2] at na nc ht hn
    rw [h2]
    exact st2_lt (x := false) hd na nc hn ht
  · rw [if_neg h2]
    have hl : lam p (UU p a) = false := by
      rw [lam_congr (u := UU p a) (w := t * t) (by
        rw [← ht]
        have : UU p a - (UU p a + ((p ^ d : Nat) : Int) * UU p c) = -(((p ^ d : Nat) : Int) * UU p c) := by omega
        rw [this]
        exact Int.dvd_neg.mpr (Int.dvd_mul_of_dvd_left (dvd_powI hd)))]
      exact lam_square hp (hp.odd h2) hn
    rw [hl]
    cases par d <;> cases par ((p - 1) / 2) <;> cases lam p (UU p c) <;> rfl
/-- a + c a square: the signs of a and c are 1 -/
theorem steinberg {q : Nat} (h : Place q) {a c r : Int} (ha : a ≠ 0) (hc : c ≠ 0) (e : a + c = r * r) : Sg q a c = false := by
  by_cases hr : r = 0
  · have : c = -a := by rw [hr] at e; omega
    rw [this]; exact Sg_neg h ha
  by_cases h0 : q = 0
  · unfold Sg
    rw [if_pos h0]
    have hpos : 0 < r * r := by
      rcases Int.lt_or_lt_of_ne hr with z | z
      · exact Int.mul_pos_of_neg_of_neg z z
      · exact Int.mul_pos z z
    by_cases z : a < 0
    · rw [decide_eq_false (show ¬ c < 0 by omega), Bool.and_false]
    · rw [decide_eq_false z, Bool.false_and]
  · have hp : IsPr q := h.resolve_left h0
    rcases Nat.lt_trichotomy (EE q a) (EE q c) with z | z | z
    · exact st_half hp ha hc e z
    · obtain ⟨d, t, hd, ht, hn⟩ := st_eq hp ha hc hr e z.symm
      have na := (EU_spec hp.1 ha).2
      have nc := (EU_spec hp.1 hc).2
      unfold Sg
      rw [if_neg h0, ← z]
      by_cases h2 : q = 2
      · rw [if_pos h2]
        rw [h2] at na nc ht hn
        rw [h2] at hd ⊢
        exact st2_eq hd na nc hn ht
      · rw [if_neg h2]
        rw [hd]
        by_cases hpd : par d = true
        · rw [hpd]
          have hd1 : 1 ≤ d := by
            rcases Nat.eq_zero_or_pos d with q0 | q0
            · rw [q0] at hpd; cases hpd
            · exact q0
          have hl : lam q (UU q c) = lam q (-UU q a) := lam_congr (by
            have : UU q c - -UU q a = UU q a + UU q c := by omega
            rw [this, ht]
            exact Int.dvd_mul_of_dvd_left (dvd_powI hd1))
          rw [hl, lam_neg hp (hp.odd h2) na]
          cases par ((q - 1) / 2) <;> cases lam q (UU q a) <;> rfl
        · rw [Bool.not_eq_true] at hpd
          rw [hpd]; rfl
    · rw [Sg_comm]
      exact st_half hp hc ha (by rw [Int.add_comm]; exact e) z
/-- no square of a prime divides it -/
def SqF (b : Int) : Prop := b ≠ 0 ∧ ∀ p, IsPr p → ¬ ((p * p : Nat) : Int) ∣ b
theorem SqF.EE_le {b : Int} (h : SqF b) {p : Nat} (hp : IsPr p) : EE p b ≤ 1 := by
  by_cases z : EE p b ≤ 1
  · exact z
  · obtain ⟨e1, _⟩ := EU_spec hp.1 h.1
    refine absurd ?_ (h.2 p hp)
    rw [e1]
    refine Int.dvd_mul_of_dvd_left (Int.natCast_dvd_natCast.mpr ?_)
    exact ⟨p ^ (EE p b - 2), by rw [← Nat.pow_two, ← Nat.pow_add]; congr 1; omega⟩
theorem EE_pos {p : Nat} {b : Int} (hp : 2 ≤ p) (hb : b ≠ 0) (hd : (p : Int) ∣ b) : 1 ≤ EE p b := by
  obtain ⟨e1, n1⟩ := EU_spec hp hb
  rcases Nat.eq_zero_or_pos (EE p b) with z | z
  · rw [z, Nat.pow_zero] at e1
    exact absurd (by rw [e1] at hd; simpa using hd) n1
  · exact z
/-- a root modulo each prime of b -/
theorem root_at {p : Nat} {a b : Int} (hp : IsPr p) (ha : a ≠ 0) (hb : SqF b) (hd : (p : Int) ∣ b) (hs : Sg p a b = false) : ∃ k : Nat, k < p ∧ (p : Int) ∣ (k : Int) * k - a := by
  have hp2 := hp.1
  by_cases z : (p : Int) ∣ a
  · exact ⟨0, by omega, by simpa using (Int.dvd_neg.mpr z)⟩
  by_cases h2 : p = 2
  · refine ⟨1, by omega, ?_⟩
    rw [h2] at z ⊢
    omega
  · have e1 : EE p b = 1 := Nat.le_antisymm (hb.EE_le hp) (EE_pos hp2 hb.1 hd)
    obtain ⟨u1, u2⟩ := EU_unit hp2 z
    unfold Sg at hs
    rw [if_neg (by omega), if_neg h2, u1, u2, e1] at hs
    have hl : lam p a = false := by
      rw [show par 0 = false from rfl, show par 1 = true from rfl] at hs
      revert hs
      cases lam p a <;> simp
    obtain ⟨k, _, k2, k3⟩ := square_of hp (hp.odd h2) z hl
    exact ⟨k, k2, k3⟩
/-- the descent's step -/
theorem desc_step {a b r c s x y z : Int} (hb : b ≠ 0) (hc : c ≠ 0) (hs : s ≠ 0) (ha : a ≠ r * r) (e : r * r - a = b * (c * (s * s))) (h : a * (x * x) + c * (y * y) = z * z) (hn : ¬ (x = 0 ∧ y = 0 ∧ z = 0)) :
    a * ((r * x + z) * (r * x + z)) + b * ((c * s * y) * (c * s * y)) = (r * z + a * x) * (r * z + a * x) ∧ ¬ (r * x + z = 0 ∧ c * s * y = 0 ∧ r * z + a * x = 0) := by
  constructor
  · grind
  · rintro ⟨h1, h2, h3⟩
    have hy : y = 0 := by
      rcases Int.mul_eq_zero.mp h2 with q | q
      · rcases Int.mul_eq_zero.mp q with q | q
        · exact absurd q hc
        · exact absurd q hs
      · exact q
    subst hy
    have hz : z = -(r * x) := by omega
    have e2 : x * x * (a - r * r) = 0 := by subst hz; grind
    rcases Int.mul_eq_zero.mp e2 with q | q
    · have hx : x = 0 := by rcases Int.mul_eq_zero.mp q with q | q <;> exact q
      subst hx
      exact hn ⟨rfl, rfl, by rw [hz]; simp⟩
    · exact ha (by omega)
end Ar
end FX

set_option Elab.async false
set_option linter.all false
set_option maxRecDepth 100000
set_option maxHeartbeats 2000000
set_option autoImplicit false
/-! FP23: the part without squares, root modulo a product of unlike primes: one step, the end -/
namespace FX
open PySem
namespace Ar
/-- n apart: f without squares, r whose square is taken out, R what is left -/
structure PP (n : Int) (pre : List Nat) (f : Int) (r R : Nat) : Prop where
  eq : n = f * ((r : Int) * r) * R
  f0 : f ≠ 0
  r0 : r ≠ 0
  R0 : R ≠ 0
  sq : ∀ p, IsPr p → ¬ ((p * p : Nat) : Int) ∣ f
  pr : ∀ p, IsPr p → ((p : Int) ∣ f ∨ p ∣ r) → p ∈ pre
  no : ∀ p ∈ pre, ¬ p ∣ R
theorem pr_ndvd {p q : Nat} (hp : IsPr p) (hq : IsPr q) (hne : p ≠ q) : ¬ p ∣ q := fun z => by
  rcases hq.2 p z with e | e
  · have := hp.1; omega
  · exact hne e
theorem one_sq {p : Nat} {f : Int} (hp : IsPr p) (hf : f = 1 ∨ f = -1) : ¬ ((p * p : Nat) : Int) ∣ f := fun z => by
  have h2 := hp.1
  have h4 : 2 * 2 ≤ p * p := Nat.mul_le_mul h2 h2
  have := Nat.le_of_dvd (by omega) (Int.ofNat_dvd_left.mp z)
  omega
theorem PP.start {n : Int} (hn : n ≠ 0) : PP n [] (if 0 < n then 1 else -1) 1 n.natAbs := by
  refine ⟨?_, ?_, by decide, by omega, fun p hp => one_sq hp (by split <;> simp), fun p hp h => ?_, fun p hp => by cases hp⟩
  · split <;> simp <;> omega
  · split <;> decide
  · exfalso
    have h2 := hp.1
    rcases h with h | h
    · have := Nat.le_of_dvd (by split <;> decide) (Int.ofNat_dvd_left.mp h)
      split at this <;> simp at this <;> omega
    · have := Nat.le_of_dvd (by decide) h; omega
theorem PP.step {n : Int} {pre : List Nat} {f : Int} {r R d : Nat} (h : PP n pre f r R) (hd : IsPr d) (hn : d ∉ pre) :
    ∃ R', PP n (pre ++ [d]) (f * (if EE d n % 2 = 1 then (d : Int) else 1)) (r * d ^ (EE d n / 2)) R' := by
  have d2 := hd.1
  have ndf : ¬ (d : Int) ∣ f := fun z => hn (h.pr d hd (.inl z))
  have ndr : ¬ d ∣ r := fun z => hn (h.pr d hd (.inr z))
  have ndA : ¬ (d : Int) ∣ f * ((r : Int) * r) := fun z => by
    rcases hd.imul z with z | z
    · exact ndf z
    · rcases hd.imul z with z | z <;> exact ndr (Int.natCast_dvd_natCast.mp z)
  have hA0 : f * ((r : Int) * r) ≠ 0 := fun z => ndA (by rw [z]; exact Int.dvd_zero _)
  have hR : ((R : Int)) ≠ 0 := by have := h.R0; omega
  have eE : EE d n = EE d (R : Int) := by
    rw [h.eq, (EU_mul hd hA0 hR).1, (EU_unit d2 ndA).1, Nat.zero_add]
  obtain ⟨u1, u2⟩ := EU_spec (q := d) (n := (R : Int)) d2 hR
  obtain ⟨R', hR'⟩ : ∃ R' : Nat, UU d (R : Int) = R' := ⟨R / d ^ EE d (R : Int), rfl⟩
  rw [hR', ← eE] at u1
  rw [hR'] at u2
  have hR2 : R' ≠ 0 := fun z => u2 (by rw [z]; exact Int.dvd_zero _)
  generalize hE : EE d n = E at *
  have hpow : ((d ^ E : Nat) : Int) = (((d ^ (E / 2) : Nat) : Int) * ((d ^ (E / 2) : Nat) : Int)) * (if E % 2 = 1 then (d : Int) else 1) := by
    have e1 : E = E / 2 + E / 2 + E % 2 := by omega
    conv => lhs; rw [e1, powI, powI]
    split
    · rename_i z; rw [z, Nat.pow_one]
    · rename_i z; rw [show E % 2 = 0 by omega, Nat.pow_zero]; rfl
  have hg0 : (if E % 2 = 1 then (d : Int) else 1) ≠ 0 := by split <;> omega
  refine ⟨R', ?_, Int.mul_ne_zero h.f0 hg0, ?_, hR2, fun p hp z => ?_, fun p hp z => ?_, fun p hp z => ?_⟩
  · rw [h.eq, u1, hpow, Int.natCast_mul]
    generalize ((d ^ (E / 2) : Nat) : Int) = t
    generalize (if E % 2 = 1 then (d : Int) else 1) = g
    grind
  · exact Nat.mul_ne_zero h.r0 (by have : 0 < d ^ (E / 2) := Nat.pow_pos (by omega); omega)
  · by_cases hpd : p = d
    · subst hpd
      rw [Int.natCast_mul] at z
      split at z
      · obtain ⟨c, hc⟩ := z
        exact ndf ⟨c, Int.eq_of_mul_eq_mul_right (a := (p : Int)) (by omega) (by rw [hc]; grind)⟩
      · rw [Int.mul_one] at z
        exact ndf (Int.dvd_trans (Int.dvd_mul_right _ _) z)
    · have npd : ¬ (p : Int) ∣ (if E % 2 = 1 then (d : Int) else 1) := fun y => by
        split at y
        · exact pr_ndvd hp hd hpd (Int.natCast_dvd_natCast.mp y)
        · have := Nat.le_of_dvd (by decide) (Int.ofNat_dvd_left.mp y); have := hp.1; omega
      generalize (if E % 2 = 1 then (d : Int) else 1) = g at *
      rw [Int.natCast_mul] at z
      have hpf : (p : Int) ∣ f := (hp.imul (Int.dvd_trans (Int.dvd_mul_right _ _) z)).resolve_right npd
      obtain ⟨f1, hf1⟩ := hpf
      obtain ⟨c, hc⟩ := z
      have h2 : (p : Int) ∣ f1 * g := ⟨c, Int.eq_of_mul_eq_mul_left (a := (p : Int)) (by have := hp.1; omega) (by rw [← Int.mul_assoc, ← hf1, hc, Int.mul_assoc])⟩
      obtain ⟨f2, hf2⟩ := (hp.imul h2).resolve_right npd
      exact h.sq p hp ⟨f2, by rw [hf1, hf2, Int.natCast_mul, Int.mul_assoc]⟩
  · by_cases hpd : p = d
    · subst hpd; simp
    · refine List.mem_append_left _ (h.pr p hp ?_)
      rcases z with z | z
      · refine .inl ((hp.imul z).resolve_right fun y => ?_)
        split at y
        · exact pr_ndvd hp hd hpd (Int.natCast_dvd_natCast.mp y)
        · have := Nat.le_of_dvd (by decide) (Int.ofNat_dvd_left.mp y); have := hp.1; omega
      · refine .inr ((hp.mul z).resolve_right ?_)
        intro y
        have key : ∀ j, ¬ p ∣ d ^ j := by
          intro j
          induction j with
          | zero => intro y; rw [Nat.pow_zero] at y; have := Nat.le_of_dvd (by decide) y; have := hp.1; omega
          | succ j ih => intro y; rw [Nat.pow_succ] at y; exact (hp.mul y).elim ih (pr_ndvd hp hd hpd)
        exact key _ y
  · rcases List.mem_append.mp hp with w | w
    · exact h.no p w (Int.natCast_dvd_natCast.mp (by rw [u1]; exact Int.dvd_mul_of_dvd_right (Int.natCast_dvd_natCast.mpr z)))
    · obtain rfl := List.mem_singleton.mp w
      exact u2 (Int.natCast_dvd_natCast.mpr z)
theorem PP.bound {n : Int} {pre : List Nat} {f : Int} {r R : Nat} (h : PP n pre f r R) : f.natAbs ≤ n.natAbs ∧ r * r ≤ n.natAbs ∧ r ≤ n.natAbs := by
  have e : n.natAbs = f.natAbs * (r * r) * R := by
    rw [h.eq, Int.natAbs_mul, Int.natAbs_mul, Int.natAbs_mul, Int.natAbs_natCast, Int.natAbs_natCast]
  have h1 : 1 ≤ f.natAbs := by have := h.f0; omega
  have h2 : 1 ≤ r := by have := h.r0; omega
  have h3 : 1 ≤ R := by have := h.R0; omega
  have h4 : 1 ≤ r * r := Nat.mul_le_mul h2 h2
  have h5 : f.natAbs * (r * r) ≤ n.natAbs := by rw [e]; exact Nat.le_mul_of_pos_right _ h3
  have h6 : f.natAbs ≤ f.natAbs * (r * r) := Nat.le_mul_of_pos_right _ h4
  have h7 : r * r ≤ f.natAbs * (r * r) := Nat.le_mul_of_pos_left _ h1
  have h8 : r ≤ r * r := Nat.le_mul_of_pos_right _ h2
  omega
theorem PP.last {n : Int} {pre : List Nat} {f : Int} {r R : Nat} (h : PP n pre f r R) (ha : ∀ p, IsPr p → p ∣ n.natAbs → p ∈ pre) : R = 1 ∧ n = f * ((r : Int) * r) ∧ SqF f := by
  have hR : R = 1 := by
    rcases Nat.lt_or_ge R 2 with z | z
    · have := h.R0; omega
    · obtain ⟨p, hp, hpd⟩ := exists_prime _ R (Nat.le_refl _) z
      refine absurd hpd (h.no p (ha p hp ?_))
      exact Int.ofNat_dvd_left.mp (by rw [h.eq]; exact Int.dvd_mul_of_dvd_right (Int.natCast_dvd_natCast.mpr hpd))
  refine ⟨hR, ?_, h.f0, h.sq⟩
  have := h.eq
  rw [hR] at this
  simpa using this
/-! ### roots -/
/-- a number that the prime does not divide can be taken until each rest comes -/
theorem hits {d : Nat} (hd : IsPr d) {s f k : Int} (hs : ¬ (d : Int) ∣ s) : ∃ t : Nat, t < d ∧ (f + t * s) % (d : Int) = k % (d : Int) := by
  have d2 := hd.1
  have hf : (d : Int) ∣ s ^ d - s := by
    have h1 := hd.fermat (s % (d : Int)).toNat
    have h0 : 0 ≤ s % (d : Int) := Int.emod_nonneg _ (by omega)
    have h2 : (((s % (d : Int)).toNat : Nat) : Int) = s % (d : Int) := by omega
    have h3 : (s ^ d) % (d : Int) = s % (d : Int) := by
      have h4 : s % (d : Int) < d := Int.emod_lt_of_pos _ (by omega)
      rw [ipow_mod, ← h2, ← Int.natCast_pow, ← Int.natCast_emod, h1, Nat.mod_eq_of_lt (by omega)]
    exact Int.dvd_of_emod_eq_zero (by rw [Int.sub_emod, h3]; simp)
  obtain ⟨e, he⟩ : ∃ e, d = e + 2 := ⟨d - 2, by omega⟩
  have hi : (d : Int) ∣ s * s ^ e - 1 := by
    have : s ^ d - s = s * (s * s ^ e - 1) := by rw [he, Int.pow_succ, Int.pow_succ]; grind
    rw [this] at hf
    exact (hd.imul hf).resolve_left hs
  have hpos : 0 < (d : Int) := by omega
  generalize hg : ((k - f) * s ^ e) % (d : Int) = t
  have t0 : 0 ≤ t := by rw [← hg]; exact Int.emod_nonneg _ (by omega)
  have t1 : t < d := by rw [← hg]; exact Int.emod_lt_of_pos _ hpos
  refine ⟨t.toNat, by omega, ?_⟩
  have ht : ((t.toNat : Nat) : Int) = t := by omega
  rw [ht]
  refine Int.emod_emod_of_dvd _ (Int.dvd_refl _) ▸ ?_
  have h5 : (d : Int) ∣ (k - f) * s ^ e - t := by rw [← hg]; exact Int.dvd_self_sub_emod
  obtain ⟨c1, hc1⟩ := h5
  obtain ⟨c2, hc2⟩ := hi
  have : (d : Int) ∣ (f + t * s) - k := ⟨(k - f) * c2 - c1 * s, by grind⟩
  have := Int.emod_emod_of_dvd (f + t * s) (Int.dvd_refl (d : Int))
  have h6 := Int.emod_eq_emod_iff_emod_sub_eq_zero.mpr (Int.emod_eq_zero_of_dvd ‹(d : Int) ∣ (f + t * s) - k›)
  rw [this]
  exact h6
/-- the square of f is a modulo s; what is left of N: R -/
structure RM (N : Nat) (a : Int) (pre : List Nat) (f s R : Nat) : Prop where
  lt : f < s
  eq : N = s * R
  dv : (s : Int) ∣ (f : Int) * f - a
  pr : ∀ p, IsPr p → p ∣ s → p ∈ pre
  no : ∀ p ∈ pre, ¬ p ∣ R
theorem sqf_no {N s R d : Nat} (hN : SqF (N : Int)) (hd : IsPr d) (e : N = s * (d * R)) : ¬ d ∣ R := fun ⟨c, hc⟩ => hN.2 d hd ⟨(s * c : Nat), by
  rw [← Int.natCast_mul, e, hc]
  congr 1
  grind⟩
theorem cop_dvd {d s : Nat} (hd : IsPr d) (hs : ¬ d ∣ s) {x : Int} (h1 : (s : Int) ∣ x) (h2 : (d : Int) ∣ x) : ((s * d : Nat) : Int) ∣ x := by
  obtain ⟨c, rfl⟩ := h1
  rcases hd.imul h2 with z | z
  · exact absurd (Int.natCast_dvd_natCast.mp z) hs
  · obtain ⟨e, rfl⟩ := z
    exact ⟨e, by rw [Int.natCast_mul, Int.mul_assoc]⟩
theorem RM.step {N : Nat} {a : Int} {pre : List Nat} {f s R d k t : Nat} (h : RM N a pre f s R) (hN : SqF (N : Int)) (hd : IsPr d) (hn : d ∉ pre) (hdN : d ∣ N) (hk : (d : Int) ∣ (k : Int) * k - a) (ht : t < d) (e : ((f + t * s : Nat) : Int) % (d : Int) = k % (d : Int)) :
    ∃ R', RM N a (pre ++ [d]) (f + t * s) (s * d) R' := by
  have hds : ¬ d ∣ s := fun z => hn (h.pr d hd z)
  have hdR : d ∣ R := by
    rw [h.eq] at hdN
    exact (hd.mul hdN).resolve_left hds
  obtain ⟨R', rfl⟩ := hdR
  refine ⟨R', ?_, by rw [h.eq, Nat.mul_assoc], ?_, fun p hp z => ?_, fun p hp z => ?_⟩
  · have h1 := h.lt
    have h2 : (t + 1) * s ≤ d * s := Nat.mul_le_mul_right _ ht
    rw [Nat.add_mul, Nat.one_mul] at h2
    rw [Nat.mul_comm s d]
    omega
  · refine cop_dvd hd hds ?_ ?_
    · obtain ⟨c, hc⟩ := h.dv
      refine ⟨c + 2 * f * t + t * t * s, ?_⟩
      rw [Int.natCast_add, Int.natCast_mul]
      grind
    · have h1 : (d : Int) ∣ ((f + t * s : Nat) : Int) - k := Int.dvd_of_emod_eq_zero (Int.emod_eq_emod_iff_emod_sub_eq_zero.mp e)
      obtain ⟨c1, hc1⟩ := h1
      obtain ⟨c2, hc2⟩ := hk
      generalize ((f + t * s : Nat) : Int) = x at *
      exact ⟨c1 * (x + k) + c2, by grind⟩
  · rcases hp.mul z with z | z
    · exact List.mem_append_left _ (h.pr p hp z)
    · refine List.mem_append_right _ (List.mem_singleton.mpr ?_)
      rcases hd.2 p z with y | y
      · have := hp.1; omega
      · exact y
  · rcases List.mem_append.mp hp with w | w
    · exact h.no p w (Nat.dvd_trans z (Nat.dvd_mul_left _ _))
    · obtain rfl := List.mem_singleton.mp w
      exact sqf_no hN hd h.eq z
theorem RM.last {N : Nat} {a : Int} {pre : List Nat} {f s R : Nat} (h : RM N a pre f s R) (hN : N ≠ 0) (ha : ∀ p, IsPr p → p ∣ N → p ∈ pre) : s = N := by
  have hR : R = 1 := by
    rcases Nat.lt_or_ge R 2 with z | z
    · have : R ≠ 0 := fun y => hN (by rw [h.eq, y, Nat.mul_zero])
      omega
    · obtain ⟨p, hp, hpd⟩ := exists_prime _ R (Nat.le_refl _) z
      exact absurd hpd (h.no p (ha p hp (by rw [h.eq]; exact Nat.dvd_trans hpd (Nat.dvd_mul_left _ _))))
  rw [h.eq, hR, Nat.mul_one]
end Ar
end FX

set_option Elab.async false
set_option linter.all false
set_option maxRecDepth 100000
set_option maxHeartbeats 2000000
set_option autoImplicit false
/-! FW0: what holds behind a run: rules that go forward, one a construct -/
namespace FX
open PySem PySem.Spec PyProof.Rows L2
def wq {α : Type} (r : R α) (Q : α → Sto → Prop) (X : Ex → Sto → Prop) : Prop := match r with
  | .ok v S => Q v S
  | .ex e S => X e S
  | .no => False
structure KF where
  nx : Env' → Sto → Prop
  rt : IV → Sto → Prop
  bk : Env' → Sto → Prop
  ct : Env' → Sto → Prop
  ex : Ex → Env' → Sto → Prop
def wg (r : Fl) (k : KF) : Prop := match r with
  | .nx E S => k.nx E S
  | .rt v S => k.rt v S
  | .bk E S => k.bk E S
  | .ct E S => k.ct E S
  | .ex e E S => k.ex e E S
  | .no => False
abbrev NoX : Ex → Sto → Prop := fun _ _ => False
def cnd (c : Bool) (A B : Prop) : Prop := (c = true → A) ∧ (c = false → B)
theorem cnd_t {A B : Prop} (h : A) : cnd true A B := ⟨fun _ => h, fun z => (nomatch z)⟩
theorem cnd_f {A B : Prop} (h : B) : cnd false A B := ⟨fun z => (nomatch z), fun _ => h⟩
theorem cnd_not {c : Bool} {A B : Prop} (h : cnd c B A) : cnd (!c) A B := by
  cases c
  · exact ⟨fun _ => h.2 rfl, fun z => (nomatch z)⟩
  · exact ⟨fun z => (nomatch z), fun _ => h.1 rfl⟩
theorem cnd_t' {c : Bool} {A B : Prop} (e : c = true) (h : A) : cnd c A B := by
  subst e; exact ⟨fun _ => h, fun z => (nomatch z)⟩
theorem cnd_f' {c : Bool} {A B : Prop} (e : c = false) (h : B) : cnd c A B := by
  subst e; exact ⟨fun z => (nomatch z), fun _ => h⟩
theorem cnd_dec {P : Prop} [Decidable P] {A B : Prop} (h : P → A) (h2 : ¬P → B) : cnd (decide P) A B := ⟨fun z => h (of_decide_eq_true z), fun z => h2 (of_decide_eq_false z)⟩
theorem cnd_yes {P : Prop} [Decidable P] {A B : Prop} (p : P) (h : A) : cnd (decide P) A B := cnd_dec (fun _ => h) fun z => absurd p z
theorem cnd_no {P : Prop} [Decidable P] {A B : Prop} (p : ¬P) (h : B) : cnd (decide P) A B := cnd_dec (fun z => absurd z p) fun _ => h
section
variable {α β : Type} {X : Ex → Sto → Prop} {E E1 : Env'} {S S1 : Sto}
theorem wq_ok {v : α} {Q : α → Sto → Prop} (q : Q v S) : wq (.ok v S) Q X := by unfold wq; exact q
theorem wq_eq {r : R α} {v : α} {Q : α → Sto → Prop} (h : r = .ok v S) (q : Q v S) : wq r Q X := by
  rw [h]; exact wq_ok q
theorem wg_nx {K : KF} (q : K.nx E S) : wg (.nx E S) K := by unfold wg; exact q
theorem wg_rt {K : KF} {v : IV} (q : K.rt v S) : wg (.rt v S) K := by unfold wg; exact q
theorem wg_bk {K : KF} (q : K.bk E S) : wg (.bk E S) K := by unfold wg; exact q
theorem wg_ct {K : KF} (q : K.ct E S) : wg (.ct E S) K := by unfold wg; exact q
theorem wq_mono {r : R α} {Q Q' : α → Sto → Prop} {X' : Ex → Sto → Prop} (h : wq r Q X) (hq : ∀ v S, Q v S → Q' v S) (hx : ∀ e S, X e S → X' e S) : wq r Q' X' := by
  unfold wq at *
  cases r with
  | ok v S => exact hq _ _ h
  | ex e S => exact hx _ _ h
  | no => exact h
theorem wq_imp {r : R α} {Q Q' : α → Sto → Prop} (h : wq r Q NoX) (hq : ∀ v S, Q v S → Q' v S) : wq r Q' X := wq_mono h hq fun _ _ z => z.elim
theorem wq_ex {r : R α} {Q : α → Sto → Prop} (h : wq r Q NoX) : ∃ v S, r = .ok v S ∧ Q v S := by
  unfold wq at h
  cases r with
  | ok v S => exact ⟨v, S, rfl, h⟩
  | ex e S => exact h.elim
  | no => exact h.elim
theorem wq_exv {r : R α} {v : α} (h : wq r (fun w _ => w = v) NoX) : ∃ S, r = .ok v S := by
  obtain ⟨w, S, e, rfl⟩ := wq_ex h
  exact ⟨S, e⟩
theorem wq_bind {r : R α} {k : α → Sto → R β} {Q : β → Sto → Prop} (h : wq r (fun v S1 => wq (k v S1) Q X) X) : wq (r.bind k) Q X := by
  unfold wq at *
  cases r with
  | ok v S => exact h
  | ex e S => exact h
  | no => exact h
theorem wg_to {r : R α} {k : α → Sto → Fl} {K : KF} (h : wq r (fun v S1 => wg (k v S1) K) (fun e S1 => K.ex e E S1)) : wg (r.to E k) K := by
  unfold wq at h
  unfold wg at *
  cases r with
  | ok v S => exact h
  | ex e S => exact h
  | no => exact h
variable {Q : IV → Sto → Prop} {QB : Bool → Sto → Prop} {QA : List IV → Sto → Prop} {K : KF}
/-! ### expressions -/
theorem wq_mC {v : IV} (h : Q v S) : wq (mC v E S) Q X := wq_ok h
theorem wq_mV {i : Nat} {v : IV} (e : E[i]? = some (some v)) (h : Q v S) : wq (mV i E S) Q X := by
  unfold mV; rw [e]; exact h
theorem wq_mB {f : MO} {ma mb : ME} (h : wq (ma E S) (fun a S1 => wq (mb E S1) (fun b S2 => wq (f a b S2) Q X) X) X) : wq (mB f ma mb E S) Q X :=
  wq_bind (wq_mono h (fun _ _ z => wq_bind z) fun _ _ z => z)
theorem wq_mU {f : IV → Sto → R IV} {ma : ME} (h : wq (ma E S) (fun a S1 => wq (f a S1) Q X) X) : wq (mU f ma E S) Q X := wq_bind h
theorem wq_mTB {m : ME} (h : wq (m E S) (fun v S1 => ∃ b, v = .bl b ∧ QB b S1) X) : wq (mTB m E S) QB X := by
  unfold mTB
  refine wq_bind (wq_mono h (fun v S1 ⟨b, e, q⟩ => ?_) fun _ _ z => z)
  subst e; exact q
theorem wq_mTru {m : ME} (h : wq (m E S) (fun v S1 => ∃ b, truI S1 v = some b ∧ QB b S1) X) : wq (mTru m E S) QB X := by
  unfold mTru
  refine wq_bind (wq_mono h (fun v S1 ⟨b, e, q⟩ => ?_) fun _ _ z => z)
  show wq (match truI S1 v with | some b => R.ok b S1 | none => R.no) QB X
  rw [e]; exact q
theorem wq_mAndT {t u : MT} (h : wq (t E S) (fun b S1 => cnd b (wq (u E S1) QB X) (QB false S1)) X) : wq (mAndT t u E S) QB X := by
  unfold mAndT
  refine wq_bind (wq_mono h (fun b S1 q => ?_) fun _ _ z => z)
  cases b
  · exact q.2 rfl
  · exact q.1 rfl
theorem wq_mOrT {t u : MT} (h : wq (t E S) (fun b S1 => cnd b (QB true S1) (wq (u E S1) QB X)) X) : wq (mOrT t u E S) QB X := by
  unfold mOrT
  refine wq_bind (wq_mono h (fun b S1 q => ?_) fun _ _ z => z)
  cases b
  · exact q.2 rfl
  · exact q.1 rfl
theorem wq_mNotT {t : MT} (h : wq (t E S) (fun b S1 => QB (!b) S1) X) : wq (mNotT t E S) QB X := wq_bind h
theorem wq_mYes (h : QB true S) : wq (mYes E S) QB X := wq_ok h
theorem wq_mAndV {ma mb : ME} (h : wq (ma E S) (fun v S1 => ∃ b, v = .bl b ∧ cnd b (wq (mb E S1) Q X) (Q (.bl false) S1)) X) : wq (mAndV ma mb E S) Q X := by
  unfold mAndV
  refine wq_bind (wq_mono h (fun v S1 ⟨b, e, q⟩ => ?_) fun _ _ z => z)
  subst e
  cases b
  · exact q.2 rfl
  · exact q.1 rfl
theorem wq_mOrV {ma mb : ME} (h : wq (ma E S) (fun v S1 => ∃ b, v = .bl b ∧ cnd b (Q (.bl true) S1) (wq (mb E S1) Q X)) X) : wq (mOrV ma mb E S) Q X := by
  unfold mOrV
  refine wq_bind (wq_mono h (fun v S1 ⟨b, e, q⟩ => ?_) fun _ _ z => z)
  subst e
  cases b
  · exact q.2 rfl
  · exact q.1 rfl
theorem wq_mIf {t : MT} {ma mb : ME} (h : wq (t E S) (fun b S1 => cnd b (wq (ma E S1) Q X) (wq (mb E S1) Q X)) X) : wq (mIf t ma mb E S) Q X := by
  unfold mIf
  refine wq_bind (wq_mono h (fun b S1 q => ?_) fun _ _ z => z)
  cases b
  · exact q.2 rfl
  · exact q.1 rfl
theorem wq_mChain {f g : MO} {ma mb mc : ME} (h : wq (ma E S) (fun a S1 => wq (mb E S1) (fun b S2 => wq (f a b S2) (fun v S3 => ∃ c, v = .bl c ∧ cnd c (wq (mc E S3) (fun c S4 => wq (g b c S4) Q X) X) (Q (.bl false) S3)) X) X) X) : wq (mChain f g ma mb mc E S) Q X := by
  unfold mChain
  refine wq_bind (wq_mono h (fun a S1 z => wq_bind (wq_mono z (fun b S2 z => wq_bind (wq_mono z (fun v S3 ⟨c, e, q⟩ => ?_) fun _ _ z => z)) fun _ _ z => z)) fun _ _ z => z)
  subst e
  cases c
  · exact q.2 rfl
  · exact wq_bind (q.1 rfl)
theorem wq_mNil (h : QA [] S) : wq (mNil E S) QA X := wq_ok h
theorem wq_mCons {m : ME} {ms : MA} (h : wq (m E S) (fun v S1 => wq (ms E S1) (fun vs S2 => QA (v :: vs) S2) X) X) : wq (mCons m ms E S) QA X :=
  wq_bind (wq_mono h (fun _ _ z => wq_bind z) fun _ _ z => z)
theorem fullLen_of {n : Nat} (h : n ≤ 16777216) : fullLen n = true := Nat.ble_eq.mpr h
theorem wq_mTup {ms : MA} (h : wq (ms E S) (fun vs S1 => fullLen vs.length = true ∧ Q (.tup vs) S1) X) : wq (mTup ms E S) Q X := by
  unfold mTup
  refine wq_bind (wq_mono h (fun v S1 ⟨e, q⟩ => ?_) fun _ _ z => z)
  show wq (bif fullLen v.length then _ else _) Q X
  rw [e]; exact q
theorem wq_mLst {ms : MA} (h : wq (ms E S) (fun vs S1 => fullLen vs.length = true ∧ Q (.ref S1.top) (S1.new (.lst vs))) X) : wq (mLst ms E S) Q X := by
  unfold mLst
  refine wq_bind (wq_mono h (fun v S1 ⟨e, q⟩ => ?_) fun _ _ z => z)
  show wq (bif fullLen v.length then _ else _) Q X
  rw [e]; exact q
theorem wq_mCall {f : MF} {ms : MA} (h : wq (ms E S) (fun vs S1 => wq (f vs S1) Q X) X) : wq (mCall f ms E S) Q X := wq_bind h
theorem wq_mCallO {f : MF} {ms : MA} (h : wq (ms E S) (fun vs S1 => wq (own f vs S1) Q X) X) : wq (mCallO f ms E S) Q X := wq_bind h
theorem wq_mInR {neg : Bool} {ma : ME} {ms : MA} (h : wq (ma E S) (fun x S1 => wq (ms E S1) (fun as S2 => wq (fInR neg x as S2) Q X) X) X) : wq (mInR neg ma ms E S) Q X :=
  wq_bind (wq_mono h (fun _ _ z => wq_bind z) fun _ _ z => z)
theorem wq_fInR {neg : Bool} {i j : Int} (h : Q (.bl (if neg then !decide (0 ≤ i ∧ i < j) else decide (0 ≤ i ∧ i < j))) S) : wq (fInR neg (.int i) [.int j] S) Q X := wq_ok h
theorem wq_mMet {f : IV → List IV → Sto → R IV} {m : ME} {ms : MA} (h : wq (m E S) (fun a S1 => tyOf S1 a = some .list ∧ wq (ms E S1) (fun as S2 => wq (f a as S2) Q X) X) X) : wq (mMet f m ms E S) Q X := by
  unfold mMet
  refine wq_bind (wq_mono h (fun a S1 ⟨e, q⟩ => ?_) fun _ _ z => z)
  show wq (match tyOf S1 a with | some .list => _ | _ => R.no) Q X
  rw [e]; exact wq_bind q
/-! slices -/
theorem wq_mNoP {QP : Option Int → Sto → Prop} (h : QP none S) : wq (mNoP E S) QP X := wq_ok h
theorem wq_mP {m : ME} {QP : Option Int → Sto → Prop} (h : wq (m E S) (fun v S1 => ∃ i, v = .int i ∧ QP (some i) S1) X) : wq (mP m E S) QP X := by
  unfold mP
  refine wq_bind (wq_mono h (fun v S1 ⟨b, e, q⟩ => ?_) fun _ _ z => z)
  subst e; exact q
theorem wq_mSl {m : ME} {l u : MP} (h : wq (m E S) (fun a S1 => wq (l E S1) (fun lo S2 => wq (u E S2) (fun hi S3 => wq (fSl a lo hi S3) Q X) X) X) X) : wq (mSl m l u E S) Q X :=
  wq_bind (wq_mono h (fun _ _ z => wq_bind (wq_mono z (fun _ _ z => wq_bind z) fun _ _ z => z)) fun _ _ z => z)
/-! ### operations -/
theorem wq_add {i j : Int} (h : Q (.int (i + j)) S) : wq (fAdd (.int i) (.int j) S) Q X := wq_ok h
theorem wq_addI {i j : Int} (h : Q (.int (i + j)) S) : wq (fAddI (.int i) (.int j) S) Q X := wq_ok h
theorem wq_sub {i j : Int} (h : Q (.int (i - j)) S) : wq (fSub (.int i) (.int j) S) Q X := wq_ok h
theorem wq_neg {i : Int} (h : Q (.int (-i)) S) : wq (fNeg (.int i) S) Q X := wq_ok h
theorem wq_notV {b : Bool} (h : Q (.bl (!b)) S) : wq (fNotV (.bl b) S) Q X := wq_ok h
theorem wq_mul {i j : Int} (e : mulFit i j = true) (h : Q (.int (i * j)) S) : wq (fMul (.int i) (.int j) S) Q X := by
  show wq (okI (mulFit i j) (i * j) S) Q X
  rw [e]; exact h
theorem wq_div {i j : Int} (e : divFit j = true) (h : Q (.int (i / j)) S) : wq (fDiv (.int i) (.int j) S) Q X := by
  show wq (bif divFit j then R.ok (IV.int (i / j)) S else okI (divFitN j) (i.fdiv j) S) Q X
  rw [e]; exact h
theorem wq_divS {i j : Int} (e0 : 0 < j) (e1 : j < 1073741824) (h : Q (.int (i / j)) S) : wq (fDivS (.int i) (.int j) S) Q X := by
  show wq (okI (decide (0 < j) && decide (j < 1073741824)) (i / j) S) Q X
  rw [decide_eq_true e0, decide_eq_true e1]; exact h
theorem wq_mod {i j : Int} (e : 0 < j) (h : Q (.int (i % j)) S) : wq (fMod (.int i) (.int j) S) Q X := by
  show wq (okI (!decide (j = 0)) (i.fmod j) S) Q X
  rw [decide_eq_false (by omega), Int.fmod_eq_emod_of_nonneg _ (by omega)]
  exact h
theorem wq_pow {i j : Int} (e : powFit i j = true) (h : Q (.int (i ^ j.toNat)) S) : wq (fPow (.int i) (.int j) S) Q X := by
  show wq (okI (powFit i j) (i ^ j.toNat) S) Q X
  rw [e]; exact h
theorem wq_cmp {p : Int → Int → Bool} {i j : Int} (h : Q (.bl (p i j)) S) : wq (fCmpI p (.int i) (.int j) S) Q X := wq_ok h
theorem wq_eqI {i j : Int} (h : Q (.bl (decide (i = j))) S) : wq (fEq (.int i) (.int j) S) Q X := wq_ok h
theorem wq_neI {i j : Int} (h : Q (.bl (!decide (i = j))) S) : wq (fNe (.int i) (.int j) S) Q X := wq_ok h
theorem wq_eqG {a b : IV} {c : Bool} (e : eqIV S a b = some c) (h : Q (.bl c) S) : wq (fEq a b S) Q X := by
  unfold fEq; rw [e]; exact h
theorem wq_neG {a b : IV} {c : Bool} (e : eqIV S a b = some c) (h : Q (.bl (!c)) S) : wq (fNe a b S) Q X := by
  unfold fNe; rw [e]; exact h
theorem wq_inG {a b : IV} {c : Bool} (e : inIV S a b = some c) (h : Q (.bl c) S) : wq (fIn a b S) Q X := by
  unfold fIn; rw [e]; exact h
theorem wq_notInG {a b : IV} {c : Bool} (e : inIV S a b = some c) (h : Q (.bl (!c)) S) : wq (fNotIn a b S) Q X := by
  unfold fNotIn; rw [e]; exact h
theorem wq_isN {a : IV} (h : Q (.bl (isNon a)) S) : wq (fIsN a .non S) Q X := wq_ok h
theorem wq_notN {a : IV} (h : Q (.bl (!isNon a)) S) : wq (fNotN a .non S) Q X := wq_ok h
theorem wq_ixT {xs : List IV} {i : Int} {v : IV} (e : atI xs i = some v) (h : Q v S) : wq (fIx (.tup xs) (.int i) S) Q X := by
  show wq (match atI xs i with | some v => R.ok v S | none => R.no) Q X
  rw [e]; exact h
theorem wq_ixF {xs : List IV} {i : Int} {v : IV} (e : atI xs i = some v) (h : Q v S) : wq (fIx (.frz xs) (.int i) S) Q X := by
  show wq (match atI xs i with | some v => R.ok v S | none => R.no) Q X
  rw [e]; exact h
theorem wq_ixL {n : Nat} {xs : List IV} {i : Int} {v : IV} (g : S.get n = some (.lst xs)) (e : atI xs i = some v) (h : Q v S) : wq (fIx (.ref n) (.int i) S) Q X := by
  show wq (match (match S.get n with | some (.lst xs) => some xs | _ => none) with | some xs => (match atI xs i with | some v => R.ok v S | none => R.no) | none => R.no) Q X
  rw [g]
  show wq (match atI xs i with | some v => R.ok v S | none => R.no) Q X
  rw [e]; exact h
theorem wq_slT {xs : List IV} {lo hi : Option Int} (h : Q (.tup (cutI xs lo hi)) S) : wq (fSl (.tup xs) lo hi S) Q X := wq_ok h
theorem wq_revT {xs : List IV} (h : Q (.tup xs.reverse) S) : wq (fRev (.tup xs) S) Q X := wq_ok h
theorem wq_revL {n : Nat} {xs : List IV} (g : S.get n = some (.lst xs)) (h : Q (.ref S.top) (S.new (.lst xs.reverse))) : wq (fRev (.ref n) S) Q X := by
  show wq (match S.get n with | some (.lst xs) => R.ok (IV.ref S.top) (S.new (.lst xs.reverse)) | _ => R.no) Q X
  rw [g]; exact h
/-! ### built-in functions -/
theorem wq_lenT {xs : List IV} (h : Q (.int xs.length) S) : wq (bLen [.tup xs] S) Q X := wq_ok h
theorem wq_lenF {xs : List IV} (h : Q (.int xs.length) S) : wq (bLen [.frz xs] S) Q X := wq_ok h
theorem wq_lenL {n : Nat} {xs : List IV} (g : S.get n = some (.lst xs)) (h : Q (.int xs.length) S) : wq (bLen [.ref n] S) Q X := by
  show wq (match (match S.get n with | some (.lst xs) => some xs | _ => none) with | some xs => R.ok (IV.int xs.length) S | none => R.no) Q X
  rw [g]; exact h
theorem wq_abs {i : Int} (h : Q (.int (if i < 0 then -i else i)) S) : wq (bAbs [.int i] S) Q X := wq_ok h
theorem wq_int {i : Int} (h : Q (.int i) S) : wq (bInt [.int i] S) Q X := wq_ok h
theorem wq_intB {b : Bool} (h : Q (.int (if b then 1 else 0)) S) : wq (bInt [.bl b] S) Q X := wq_ok h
theorem wq_max {i j : Int} (h : Q (.int (if j > i then j else i)) S) : wq (bMax [.int i, .int j] S) Q X := wq_ok h
theorem wq_min {i j : Int} (h : Q (.int (if j < i then j else i)) S) : wq (bMin [.int i, .int j] S) Q X := wq_ok h
theorem wq_gcd {i j : Int} (h : Q (.int ((Nat.gcd i.natAbs j.natAbs : Nat) : Int)) S) : wq (bGcd [.int i, .int j] S) Q X := wq_ok h
theorem wq_tupT {xs : List IV} (h : Q (.tup xs) S) : wq (bTuple [.tup xs] S) Q X := wq_ok h
theorem wq_tupL {n : Nat} {xs : List IV} (g : S.get n = some (.lst xs)) (h : Q (.tup xs) S) : wq (bTuple [.ref n] S) Q X := by
  rw [bTuple_lst g]; exact h
theorem wq_listT {xs : List IV} (h : Q (.ref S.top) (S.new (.lst xs))) : wq (bList [.tup xs] S) Q X := wq_ok h
theorem wq_listL {n : Nat} {xs : List IV} (g : S.get n = some (.lst xs)) (h : Q (.ref S.top) (S.new (.lst xs))) : wq (bList [.ref n] S) Q X := by
  show wq (match (match S.get n with | some (.lst xs) => some xs | _ => none) with | some xs => R.ok (IV.ref S.top) (S.new (.lst xs)) | none => R.no) Q X
  rw [g]; exact h
theorem wq_isI {x : IV} {n t : BT} (e : tyOf S x = some t) (e2 : noneB n = false) (h : Q (.bl (isB t n)) S) : wq (bIsI [x, .ty n] S) Q X := by
  show wq (match tyOf S x with | some t => bif noneB n then R.no else R.ok (IV.bl (isB t n)) S | none => R.no) Q X
  rw [e]
  show wq (bif noneB n then R.no else R.ok (IV.bl (isB t n)) S) Q X
  rw [e2]; exact h
theorem wq_sumL {n : Nat} {l : List Int} (g : S.get n = some (.lst (l.map IV.int))) (h : Q (.int l.sum) S) : wq (bSum [.ref n] S) Q X := by
  rw [bSum_lst g]; exact h
theorem blsOf_map : ∀ l : List Bool, blsOf (l.map IV.bl) = some l
  | [] => rfl
  | b :: l => by
    show (blsOf (l.map IV.bl)).map (b :: ·) = _
    rw [blsOf_map l]; rfl
theorem wq_allL {n : Nat} {l : List Bool} (g : S.get n = some (.lst (l.map IV.bl))) (h : Q (.bl (l.all id)) S) : wq (bAll [.ref n] S) Q X := by
  show wq (match (match S.get n with | some (.lst xs) => blsOf xs | _ => none) with | some ns => R.ok (IV.bl (ns.all id)) S | none => R.no) Q X
  rw [g]
  show wq (match blsOf (l.map IV.bl) with | some ns => R.ok (IV.bl (ns.all id)) S | none => R.no) Q X
  rw [blsOf_map]; exact h
theorem wq_anyL {n : Nat} {l : List Bool} (g : S.get n = some (.lst (l.map IV.bl))) (h : Q (.bl (l.any id)) S) : wq (bAny [.ref n] S) Q X := by
  show wq (match (match S.get n with | some (.lst xs) => blsOf xs | _ => none) with | some ns => R.ok (IV.bl (ns.any id)) S | none => R.no) Q X
  rw [g]
  show wq (match blsOf (l.map IV.bl) with | some ns => R.ok (IV.bl (ns.any id)) S | none => R.no) Q X
  rw [blsOf_map]; exact h
theorem wq_append {n : Nat} {xs : List IV} {v : IV} (g : S.get n = some (.lst xs)) (e : xs.length < 16777216) (h : Q .non (S.put n (.lst (xs ++ [v])))) : wq (fAppend (.ref n) [v] S) Q X := by
  show wq (match S.get n with | some (.lst xs) => (bif Nat.blt xs.length 16777216 then R.ok IV.non (S.put n (.lst (xs ++ [v]))) else R.no) | _ => R.no) Q X
  rw [g]
  show wq (bif Nat.blt xs.length 16777216 then R.ok IV.non (S.put n (.lst (xs ++ [v]))) else R.no) Q X
  rw [show Nat.blt xs.length 16777216 = true from Nat.ble_eq.mpr e]; exact h
theorem wq_lstRg1 {b : Int} (e : rgFit 0 b = true) (h : Q (.ref S.top) (S.new (.lst (rangeI 0 b.toNat)))) : wq (fLstRg1 (.int b) S) Q X := by
  show wq (bif rgFit 0 b then R.ok (IV.ref S.top) (S.new (.lst (rangeI 0 b.toNat))) else R.no) Q X
  rw [e]; exact h
theorem wq_lstRg2 {a b : Int} (e : rgFit a b = true) (h : Q (.ref S.top) (S.new (.lst (rangeI a (b - a).toNat)))) : wq (fLstRg2 (.int a) (.int b) S) Q X := by
  show wq (bif rgFit a b then R.ok (IV.ref S.top) (S.new (.lst (rangeI a (b - a).toNat))) else R.no) Q X
  rw [e]; exact h
/-- a call whose arguments name no cell -/
theorem wq_own {f : MF} {as : List IV} (ha : flatRs as = true) (h : wq (f as ⟨0, []⟩) (fun v _ => flatR v = true ∧ Q v S) (fun _ _ => False)) : wq (own f as S) Q X := by
  obtain ⟨v, S', e, hv, q⟩ := wq_ex h
  rw [own_flat ha e hv S]
  exact q
theorem wq_ownC {f : MF} {as : List IV} (ha : flatRs as = false) (h : wq (f as S) Q X) : wq (own f as S) Q X := by
  rw [own_cell ha]; exact h
/-! ### statements -/
theorem wg_mono {r : Fl} {K' : KF} (h : wg r K) (h1 : ∀ E S, K.nx E S → K'.nx E S) (h2 : ∀ v S, K.rt v S → K'.rt v S) (h3 : ∀ E S, K.bk E S → K'.bk E S) (h4 : ∀ E S, K.ct E S → K'.ct E S) (h5 : ∀ e E S, K.ex e E S → K'.ex e E S) : wg r K' := by
  unfold wg at *
  cases r
  · exact h1 _ _ h
  · exact h2 _ _ h
  · exact h3 _ _ h
  · exact h4 _ _ h
  · exact h5 _ _ _ h
  · exact h
/-- and then b -/
def KF.thenq (b : MS) (K : KF) : KF := ⟨fun E1 S1 => wg (b E1 S1) K, K.rt, K.bk, K.ct, K.ex⟩
def KF.fn (Q : IV → Sto → Prop) (X : Ex → Sto → Prop) : KF := ⟨fun _ S' => Q .non S', Q, fun _ _ => False, fun _ _ => False, fun e _ S' => X e S'⟩
def KF.loop (I : Env' → Sto → Prop) (K : KF) : KF := ⟨I, K.rt, K.nx, I, K.ex⟩
theorem kq_nx {b : MS} (h : wg (b E S) K) : (KF.thenq b K).nx E S := h
theorem kq_rt {b : MS} {v : IV} (h : K.rt v S) : (KF.thenq b K).rt v S := h
theorem kq_bk {b : MS} (h : K.bk E S) : (KF.thenq b K).bk E S := h
theorem kq_ct {b : MS} (h : K.ct E S) : (KF.thenq b K).ct E S := h
theorem kq_ex {b : MS} {e : Ex} (h : K.ex e E S) : (KF.thenq b K).ex e E S := h
theorem kf_nx (h : Q .non S) : (KF.fn Q X).nx E S := h
theorem kf_rt {v : IV} (h : Q v S) : (KF.fn Q X).rt v S := h
theorem kf_ex {e : Ex} (h : X e S) : (KF.fn Q X).ex e E S := h
theorem kl_nx {I : Env' → Sto → Prop} (h : I E S) : (KF.loop I K).nx E S := h
theorem kl_ct {I : Env' → Sto → Prop} (h : I E S) : (KF.loop I K).ct E S := h
theorem kl_bk {I : Env' → Sto → Prop} (h : K.nx E S) : (KF.loop I K).bk E S := h
theorem kl_rt {I : Env' → Sto → Prop} {v : IV} (h : K.rt v S) : (KF.loop I K).rt v S := h
theorem kl_ex {I : Env' → Sto → Prop} {e : Ex} (h : K.ex e E S) : (KF.loop I K).ex e E S := h
theorem wg_seq {a b : MS} (h : wg (a E S) (KF.thenq b K)) : wg (mSeq a b E S) K := by
  unfold mSeq
  cases e : a E S <;> rw [e] at h <;> exact h
theorem wg_skip (h : K.nx E S) : wg (mSkip E S) K := wg_nx h
theorem wg_brk (h : K.bk E S) : wg (mBrk E S) K := wg_bk h
theorem wg_cont (h : K.ct E S) : wg (mCont E S) K := wg_ct h
theorem wg_retN (h : K.rt .non S) : wg (mRetN E S) K := wg_rt h
theorem wg_drop {m : ME} (h : wq (m E S) (fun _ S1 => K.nx E S1) (fun e S1 => K.ex e E S1)) : wg (mDrop m E S) K := wg_to h
theorem wg_ret {m : ME} (h : wq (m E S) (fun v S1 => K.rt v S1) (fun e S1 => K.ex e E S1)) : wg (mRet m E S) K := wg_to h
theorem wg_if {t : MT} {a b : MS} (h : wq (t E S) (fun c S1 => cnd c (wg (a E S1) K) (wg (b E S1) K)) (fun e S1 => K.ex e E S1)) : wg (mIfS t a b E S) K := by
  refine wg_to (wq_mono h (fun c S1 q => ?_) fun _ _ z => z)
  cases c
  · exact q.2 rfl
  · exact q.1 rfl
/-- a slot of a written row -/
inductive SetL : Env' → Nat → Option IV → Env' → Prop where
  | zero {a : Option IV} {as : Env'} {v : Option IV} : SetL (a :: as) 0 v (v :: as)
  | succ {a : Option IV} {as as' : Env'} {v : Option IV} {i : Nat} : SetL as i v as' → SetL (a :: as) (i + 1) v (a :: as')
theorem SetL.eq {E E1 : Env'} {i : Nat} {v : Option IV} (h : SetL E i v E1) : E.set i v = E1 := by
  induction h with
  | zero => rfl
  | succ _ ih => rw [List.set_cons_succ, ih]
theorem wg_set {i : Nat} {m : ME} (h : wq (m E S) (fun v S1 => ∃ E1, SetL E i (some v) E1 ∧ K.nx E1 S1) (fun e S1 => K.ex e E S1)) : wg (mSet i m E S) K :=
  wg_to (wq_mono h (fun v S1 ⟨E1, e, q⟩ => by rw [← e.eq] at q; exact q) fun _ _ z => z)
theorem wg_aug {i : Nat} {f : MO} {m : ME} {x : IV} (e : E[i]? = some (some x)) (h : wq (m E S) (fun y S1 => wq (f x y S1) (fun z S2 => ∃ E1, SetL E i (some z) E1 ∧ K.nx E1 S2) (fun e S1 => K.ex e E S1)) (fun e S1 => K.ex e E S1)) : wg (mAug i f m E S) K := by
  unfold mAug
  rw [e]
  exact wg_to (wq_mono h (fun v S1 z => wg_to (wq_mono z (fun v S1 ⟨E1, e, q⟩ => by rw [← e.eq] at q; exact q) fun _ _ z => z)) fun _ _ z => z)
theorem wg_par {i j : Nat} {ms : MA} (h : wq (ms E S) (fun vs S1 => ∃ v w E1 E2, vs = [v, w] ∧ SetL E i (some v) E1 ∧ SetL E1 j (some w) E2 ∧ K.nx E2 S1) (fun e S1 => K.ex e E S1)) : wg (mPar i j ms E S) K := by
  refine wg_to (wq_mono h (fun vs S1 ⟨v, w, E1, E2, e, e1, e2, q⟩ => ?_) fun _ _ z => z)
  subst e
  rw [← e2.eq, ← e1.eq] at q
  exact q
theorem wg_par3 {i j l : Nat} {ms : MA} (h : wq (ms E S) (fun vs S1 => ∃ v w u E1 E2 E3, vs = [v, w, u] ∧ SetL E i (some v) E1 ∧ SetL E1 j (some w) E2 ∧ SetL E2 l (some u) E3 ∧ K.nx E3 S1) (fun e S1 => K.ex e E S1)) : wg (mPar3 i j l ms E S) K := by
  refine wg_to (wq_mono h (fun vs S1 ⟨v, w, u, E1, E2, E3, e, e1, e2, e3, q⟩ => ?_) fun _ _ z => z)
  subst e
  rw [← e3.eq, ← e2.eq, ← e1.eq] at q
  exact q
mutual
inductive BindL : Tg → IV → Env' → Env' → Prop where
  | name {i : Nat} {v : IV} {E E1 : Env'} : SetL E i (some v) E1 → BindL (.name i) v E E1
  | tup {ts : List Tg} {vs : List IV} {E E1 : Env'} : BindLs ts vs E E1 → BindL (.tup ts) (.tup vs) E E1
inductive BindLs : List Tg → List IV → Env' → Env' → Prop where
  | nil {E : Env'} : BindLs [] [] E E
  | cons {t : Tg} {ts : List Tg} {v : IV} {vs : List IV} {E E1 E2 : Env'} : BindL t v E E1 → BindLs ts vs E1 E2 → BindLs (t :: ts) (v :: vs) E E2
end
mutual
theorem BindL.eq : ∀ {t : Tg} {v : IV} {E E1 : Env'}, BindL t v E E1 → bindT t v E = some E1
  | _, _, _, _, .name h => by
    unfold bindT
    rw [h.eq]
  | _, _, _, _, .tup h => by
    unfold bindT
    exact BindLs.eq h
theorem BindLs.eq : ∀ {t : List Tg} {v : List IV} {E E1 : Env'}, BindLs t v E E1 → bindTs t v E = some E1
  | _, _, _, _, .nil => by
    unfold bindTs
    rfl
  | _, _, _, _, .cons h h' => by
    unfold bindTs
    rw [h.eq]
    exact h'.eq
end
theorem wg_asg {b : Tg} {m : ME} (h : wq (m E S) (fun v S1 => ∃ E1, BindL b v E E1 ∧ K.nx E1 S1) (fun e S1 => K.ex e E S1)) : wg (mAsg b m E S) K := by
  refine wg_to (wq_mono h (fun v S1 ⟨E1, e, q⟩ => ?_) fun _ _ z => z)
  show wg (match bindT b v E with | some E' => Fl.nx E' S1 | none => Fl.no) K
  rw [e.eq]
  exact q
theorem wg_put {o i m : ME} (h : wq (m E S) (fun v S1 => wq (o E S1) (fun a S2 => wq (i E S2) (fun b S3 => ∃ S4, fPut a b v S3 = some S4 ∧ K.nx E S4) (fun e S1 => K.ex e E S1)) (fun e S1 => K.ex e E S1)) (fun e S1 => K.ex e E S1)) : wg (mPut o i m E S) K := by
  refine wg_to (wq_mono h (fun v S1 z => wg_to (wq_mono z (fun a S2 z => wg_to (wq_mono z (fun b S3 ⟨S4, e, q⟩ => ?_) fun _ _ z => z)) fun _ _ z => z)) fun _ _ z => z)
  show wg (match fPut a b v S3 with | some S4 => Fl.nx E S4 | none => Fl.no) K
  rw [e]
  exact q
theorem wq_def {n : Nat} {b : MS} {as : List IV} (E : Env') (hE : as.map some ++ List.replicate (n - as.length) none = E) (h : wg (b E S) (KF.fn Q X)) : wq (mDef n b as S) Q X := by
  subst hE
  unfold mDef
  revert h
  generalize b _ S = r
  intro h
  cases r <;> exact h
/-! ### loops -/
theorem wg_while {t : MT} {b : MS} {n : Nat} (I : Nat → Env' → Sto → Prop) (k : Nat) (hk : k < n) (h0 : I k E S)
    (hs : ∀ k E S, I k E S → wq (t E S) (fun c S1 => cnd c (wg (b E S1) (KF.loop (fun E2 S2 => ∃ k', k' < k ∧ I k' E2 S2) K)) (K.nx E S1)) (fun e S1 => K.ex e E S1)) : wg (mWhile t b n E S) K := by
  induction n generalizing k E S with
  | zero => omega
  | succ n ih =>
    unfold mWhile
    refine wg_to (wq_mono (hs k E S h0) (fun c S1 q => ?_) fun _ _ z => z)
    cases c
    · exact q.2 rfl
    · have q1 := q.1 rfl
      show wg (match b E S1 with | .nx E2 S2 => mWhile t b n E2 S2 | .ct E2 S2 => mWhile t b n E2 S2 | .bk E2 S2 => .nx E2 S2 | .rt v S2 => .rt v S2 | .ex e E2 S2 => .ex e E2 S2 | .no => .no) K
      cases e : b E S1 <;> rw [e] at q1
      · obtain ⟨k', h1, h2⟩ := q1
        exact ih k' (by omega) h2
      · exact q1
      · exact q1
      · obtain ⟨k', h1, h2⟩ := q1
        exact ih k' (by omega) h2
      · exact q1
      · exact q1
theorem wg_for {N : Nat} {mi : MI} {tg : Tg} {b : MS} (h : wq (mi E S) (fun k S1 => wg (mForGo tg b N k E S1) K) (fun e S1 => K.ex e E S1)) : wg (mFor N mi tg b E S) K := wg_to h
theorem wg_items {tg : Tg} {b : MS} {N : Nat} {xs : List IV} (I : Nat → Env' → Sto → Prop) (hN : xs.length < N) (h0 : I 0 E S)
    (hs : ∀ i x E S, xs[i]? = some x → I i E S → ∃ E1, bindT tg x E = some E1 ∧ wg (b E1 S) (KF.loop (I (i + 1)) K))
    (he : ∀ E S, I xs.length E S → K.nx E S) : wg (mForGo tg b N (.items xs) E S) K := by
  induction xs generalizing N I E S with
  | nil =>
    cases N with
    | zero => cases hN
    | succ N => exact he _ _ h0
  | cons x r ih =>
    cases N with
    | zero => cases hN
    | succ N =>
      obtain ⟨E1, e1, w⟩ := hs 0 x E S rfl h0
      have key : ∀ E2 S2, I 1 E2 S2 → wg (mForGo tg b N (.items r) E2 S2) K := fun E2 S2 h =>
        ih (fun i => I (i + 1)) (Nat.lt_of_succ_lt_succ hN) h (fun i x E S hx hi => hs (i + 1) x E S hx hi) he
      unfold mForGo
      simp only [Wk.step, e1]
      cases e : b E1 S <;> rw [e] at w
      · exact key _ _ w
      · exact w
      · exact w
      · exact key _ _ w
      · exact w
      · exact w
theorem wg_cell {tg : Tg} {b : MS} {N n : Nat} {xs : List IV} (I : Nat → Env' → Sto → Prop) (hN : xs.length < N) (h0 : I 0 E S) (hg : ∀ i E S, I i E S → S.get n = some (.lst xs))
    (hs : ∀ i x E S, xs[i]? = some x → I i E S → ∃ E1, bindT tg x E = some E1 ∧ wg (b E1 S) (KF.loop (I (i + 1)) K))
    (he : ∀ E S, I xs.length E S → K.nx E S) : wg (mForGo tg b N (.cell n 0) E S) K := by
  have main : ∀ (k N i : Nat) (E : Env') (S : Sto), xs.length - i = k → i ≤ xs.length → k < N → I i E S → wg (mForGo tg b N (.cell n i) E S) K := by
    intro k
    induction k with
    | zero =>
      intro N i E S hk hi hN h
      cases N with
      | zero => cases hN
      | succ N =>
        have e : xs[i]? = none := List.getElem?_eq_none (by omega)
        unfold mForGo
        simp only [Wk.step, hg i E S h, e]
        exact he _ _ (by rw [show xs.length = i by omega]; exact h)
    | succ k ih =>
      intro N i E S hk hi hN h
      cases N with
      | zero => cases hN
      | succ N =>
        have hlt : i < xs.length := by omega
        have e : xs[i]? = some xs[i] := List.getElem?_eq_getElem hlt
        obtain ⟨E1, e1, w⟩ := hs i _ E S e h
        have key : ∀ E2 S2, I (i + 1) E2 S2 → wg (mForGo tg b N (.cell n (i + 1)) E2 S2) K := fun E2 S2 h => ih N (i + 1) E2 S2 (by omega) (by omega) (by omega) h
        unfold mForGo
        simp only [Wk.step, hg i E S h, e, e1]
        cases e : b E1 S <;> rw [e] at w
        · exact key _ _ w
        · exact w
        · exact w
        · exact key _ _ w
        · exact w
        · exact w
  exact main xs.length N 0 E S (by omega) (by omega) hN h0
theorem wq_mWk {f : List IV → Sto → R Wk} {ms : MA} {QW : Wk → Sto → Prop} (h : wq (ms E S) (fun vs S1 => wq (f vs S1) QW X) X) : wq (mWk f ms E S) QW X := wq_bind h
theorem wq_range1 {j : Int} {QW : Wk → Sto → Prop} (e : in62 j = true) (h : QW (.items (rangeI 0 j.toNat)) S) : wq (fRange [.int j] S) QW X := by
  show wq (bif in62 j then R.ok (Wk.items (rangeI 0 j.toNat)) S else R.no) QW X
  rw [e]; exact h
theorem wq_range2 {i j : Int} {QW : Wk → Sto → Prop} (e1 : in62 i = true) (e2 : in62 j = true) (h : QW (.items (rangeI i (j - i).toNat)) S) : wq (fRange [.int i, .int j] S) QW X := by
  show wq (bif (in62 i && in62 j) then R.ok (Wk.items (rangeI i (j - i).toNat)) S else R.no) QW X
  rw [e1, e2]; exact h
theorem wq_rangeD {i j : Int} {QW : Wk → Sto → Prop} (e1 : in62 i = true) (e2 : in62 j = true) (h : QW (.items (rangeC i (-1) (i - j).toNat)) S) : wq (fRange [.int i, .int j, .int (-1)] S) QW X := by
  show wq (bif (in62 i && in62 j && decide ((-1 : Int) = -1)) then R.ok (Wk.items (rangeC i (-1) (i - j).toNat)) S else R.no) QW X
  rw [e1, e2]; exact h
theorem wq_enumT {xs : List IV} {QW : Wk → Sto → Prop} (h : QW (.items (pairsI 0 xs)) S) : wq (fEnum [.tup xs] S) QW X := wq_ok h
theorem wq_seqT {m : ME} {QW : Wk → Sto → Prop} (h : wq (m E S) (fun v S1 => (∃ xs, v = .tup xs ∧ QW (.items xs) S1) ∨ ∃ n xs, v = .ref n ∧ S1.get n = some (.lst xs) ∧ QW (.cell n 0) S1) X) : wq (mSeqW m E S) QW X := by
  unfold mSeqW
  refine wq_bind (wq_mono h (fun v S1 q => ?_) fun _ _ z => z)
  rcases q with ⟨xs, rfl, q⟩ | ⟨n, xs, rfl, g, q⟩
  · exact q
  · show wq (match S1.get n with | some (.lst _) => R.ok (Wk.cell n 0) S1 | _ => R.no) QW X
    rw [g]; exact q
/-! comprehensions -/
theorem wq_lc {n : Nat} {mi : MI} {tg : Tg} {t : MT} {e : ME} {vs : List Nat} (h : wq (mi E S) (fun k S1 => wq (mLcGo tg t e n k [] (wipeE E vs) S1) (fun xs S2 => Q (.ref S2.top) (S2.new (.lst xs))) X) X) : wq (mLc n mi tg t e vs E S) Q X :=
  wq_bind (wq_mono h (fun _ _ z => wq_bind z) fun _ _ z => z)
/-- what a comprehension does with one item -/
def LcStepq (tg : Tg) (t : MT) (e : ME) (E : Env') (S : Sto) (x : IV) (J : List IV → Sto → Prop) : Prop :=
  ∃ E1, bindT tg x E = some E1 ∧ wq (t E1 S) (fun c S1 => cnd c (wq (e E1 S1) (fun y S2 => J [y] S2) NoX) (J [] S1)) NoX
theorem wq_lcGo {tg : Tg} {t : MT} {e : ME} {QL : List IV → Sto → Prop} {N : Nat} {xs acc : List IV} (I : Nat → List IV → Sto → Prop) (hN : xs.length < N) (h0 : I 0 acc.reverse S)
    (hs : ∀ i x a S, xs[i]? = some x → I i a S → LcStepq tg t e E S x fun y S2 => I (i + 1) (a ++ y) S2)
    (he : ∀ a S, I xs.length a S → QL a S) : wq (mLcGo tg t e N (.items xs) acc E S) QL X := by
  induction xs generalizing N I S acc with
  | nil =>
    cases N with
    | zero => cases hN
    | succ N => exact he _ _ h0
  | cons x r ih =>
    cases N with
    | zero => cases hN
    | succ N =>
      obtain ⟨E1, e1, w⟩ := hs 0 x _ S rfl h0
      obtain ⟨c, S1, ec, q⟩ := wq_ex w
      unfold mLcGo
      simp only [Wk.step, e1, ec]
      cases c with
      | true =>
        obtain ⟨y, S2, ey, q2⟩ := wq_ex (q.1 rfl)
        simp only [ey]
        exact ih (fun i => I (i + 1)) (Nat.lt_of_succ_lt_succ hN) (by rw [List.reverse_cons]; exact q2) (fun i x a S hx hi => hs (i + 1) x a S hx hi) he
      | false =>
        have q2 : I (0 + 1) (acc.reverse ++ []) S1 := q.2 rfl
        rw [List.append_nil] at q2
        exact ih (fun i => I (i + 1)) (Nat.lt_of_succ_lt_succ hN) q2 (fun i x a S hx hi => hs (i + 1) x a S hx hi) he
theorem wq_lcCell {tg : Tg} {t : MT} {e : ME} {QL : List IV → Sto → Prop} {N n : Nat} {xs : List IV} (I : Nat → List IV → Sto → Prop) (hN : xs.length < N) (h0 : I 0 [] S) (hg : ∀ i a S, I i a S → S.get n = some (.lst xs))
    (hs : ∀ i x a S, xs[i]? = some x → I i a S → LcStepq tg t e E S x fun y S2 => I (i + 1) (a ++ y) S2)
    (he : ∀ a S, I xs.length a S → QL a S) : wq (mLcGo tg t e N (.cell n 0) [] E S) QL X := by
  have main : ∀ (k N i : Nat) (acc : List IV) (S : Sto), xs.length - i = k → i ≤ xs.length → k < N → I i acc.reverse S → wq (mLcGo tg t e N (.cell n i) acc E S) QL X := by
    intro k
    induction k with
    | zero =>
      intro N i acc S hk hi hN h
      cases N with
      | zero => cases hN
      | succ N =>
        have e : xs[i]? = none := List.getElem?_eq_none (by omega)
        unfold mLcGo
        simp only [Wk.step, hg i _ S h, e]
        exact he _ _ (by rw [show xs.length = i by omega]; exact h)
    | succ k ih =>
      intro N i acc S hk hi hN h
      cases N with
      | zero => cases hN
      | succ N =>
        have hlt : i < xs.length := by omega
        have e0 : xs[i]? = some xs[i] := List.getElem?_eq_getElem hlt
        obtain ⟨E1, e1, w⟩ := hs i _ _ S e0 h
        obtain ⟨c, S1, ec, q⟩ := wq_ex w
        unfold mLcGo
        simp only [Wk.step, hg i _ S h, e0, e1, ec]
        cases c with
        | true =>
          obtain ⟨y, S2, ey, q2⟩ := wq_ex (q.1 rfl)
          simp only [ey]
          exact ih N (i + 1) (y :: acc) S2 (by omega) (by omega) (by omega) (by rw [List.reverse_cons]; exact q2)
        | false =>
          have q2 : I (i + 1) (acc.reverse ++ []) S1 := q.2 rfl
          rw [List.append_nil] at q2
          exact ih N (i + 1) acc S1 (by omega) (by omega) (by omega) q2
  exact main xs.length N 0 [] S (by omega) (by omega) hN h0
end
/-! words for the walk -/
theorem ex_set {E E1 : Env'} {i : Nat} {v : Option IV} {P : Env' → Prop} (e : SetL E i v E1) (h : P E1) : ∃ E1, SetL E i v E1 ∧ P E1 := ⟨E1, e, h⟩
theorem ex_bind {b : Tg} {E E1 : Env'} {v : IV} {P : Env' → Prop} (e : BindL b v E E1) (h : P E1) : ∃ E1, BindL b v E E1 ∧ P E1 := ⟨E1, e, h⟩
theorem ex_bindT {b : Tg} {E E1 : Env'} {v : IV} {P : Env' → Prop} (e : BindL b v E E1) (h : P E1) : ∃ E1, bindT b v E = some E1 ∧ P E1 := ⟨E1, e.eq, h⟩
theorem ex_par {E E1 E2 : Env'} {i j : Nat} {v w : IV} {P : Env' → Prop} (e : SetL E i (some v) E1) (e2 : SetL E1 j (some w) E2) (h : P E2) : ∃ v' w' E1 E2, [v, w] = [v', w'] ∧ SetL E i (some v') E1 ∧ SetL E1 j (some w') E2 ∧ P E2 := ⟨v, w, E1, E2, rfl, e, e2, h⟩
theorem ex_par3 {E E1 E2 E3 : Env'} {i j l : Nat} {v w u : IV} {P : Env' → Prop} (e : SetL E i (some v) E1) (e2 : SetL E1 j (some w) E2) (e3 : SetL E2 l (some u) E3) (h : P E3) : ∃ v' w' u' E1 E2 E3, [v, w, u] = [v', w', u'] ∧ SetL E i (some v') E1 ∧ SetL E1 j (some w') E2 ∧ SetL E2 l (some u') E3 ∧ P E3 := ⟨v, w, u, E1, E2, E3, rfl, e, e2, e3, h⟩
/-! ### dice -/
namespace Dice
theorem wq_roll {S : Sto} {n k : Nat} {t : Int} {Q : IV → Sto → Prop} {X : Ex → Sto → Prop} (h : At S n k) (ht : 0 < t) (ht2 : divFit t = true) (hk : k < 2 ^ 40) (q : ∀ (r : Nat) (S' : Sto), (r : Int) < t → At S' n (k + 1) → KeepBut n S S' → S'.top = S.top → Q (.int r) S') : wq (own m__law_roll [.ref n, .int t] S) Q X := by
  obtain ⟨r, S', e, h1, h2, h3, h4, h5⟩ := roll_fit t h ht ht2 hk
  rw [own_cell rfl, e]
  have := q r.toNat S' (by omega) h3 h4 h5
  rw [Int.toNat_of_nonneg h1] at this
  exact this
theorem wq_one_of {S : Sto} {n m k : Nat} {xs : List IV} {Q : IV → Sto → Prop} {X : Ex → Sto → Prop} (h : At S n k) (hm : m ≠ n) (g : S.get m = some (.lst xs)) (hx : 0 < xs.length) (hx2 : xs.length < 2 ^ 20) (hk : k < 2 ^ 40) (q : ∀ v S', v ∈ xs → At S' n (k + 1) → KeepBut n S S' → S'.top = S.top → Q v S') : wq (own m__law_one_of [.ref n, .ref m] S) Q X := by
  obtain ⟨v, S', e, h1, h2, h3, h4⟩ := one_of_lst h hm g hx hx2 hk
  rw [own_cell rfl, e]
  exact q v S' h1 h2 h3 h4
theorem wq_one_of_tup {S : Sto} {n k : Nat} {xs : List IV} {Q : IV → Sto → Prop} {X : Ex → Sto → Prop} (h : At S n k) (hx : 0 < xs.length) (hx2 : xs.length < 2 ^ 20) (hk : k < 2 ^ 40) (q : ∀ v S', v ∈ xs → At S' n (k + 1) → KeepBut n S S' → S'.top = S.top → Q v S') : wq (own m__law_one_of [.ref n, .tup xs] S) Q X := by
  obtain ⟨v, S', e, h1, h2, h3, h4⟩ := one_of_tup h hx hx2 hk
  rw [own_cell rfl, e]
  exact q v S' h1 h2 h3 h4
end Dice
end FX

set_option Elab.async false
set_option linter.all false
set_option maxRecDepth 100000
set_option maxHeartbeats 2000000
set_option autoImplicit false
/-! FW1: the rules of FW0 over judgements that nothing unfolds (printed by fwgen.py) -/
namespace FX
open PySem PySem.Spec PyProof.Rows L2
@[irreducible] def wp {α : Type} (r : R α) (Q : α → Sto → Prop) (X : Ex → Sto → Prop) : Prop := wq r Q X
@[irreducible] def wf (r : Fl) (K : KF) : Prop := wg r K
theorem wq_wp : @wq = @wp := by
  funext α r Q X
  unfold wp
  rfl
theorem wg_wf : @wg = @wf := by
  funext r K
  unfold wf
  rfl
def KF.then (b : MS) (K : KF) : KF := ⟨fun E1 S1 => wf (b E1 S1) K, K.rt, K.bk, K.ct, K.ex⟩
theorem thq : @KF.thenq = @KF.then := by
  funext b K
  show (⟨fun E1 S1 => wg (b E1 S1) K, K.rt, K.bk, K.ct, K.ex⟩ : KF) = ⟨fun E1 S1 => wf (b E1 S1) K, K.rt, K.bk, K.ct, K.ex⟩
  rw [wg_wf]
section
variable {α β : Type} {X : Ex → Sto → Prop} {E E1 : Env'} {S S1 : Sto}
theorem wp_ok {v : α} {Q : α → Sto → Prop} (q : Q v S) : wp (.ok v S) Q X := by
  have z := @wq_ok
  simp only [wq_wp, wg_wf, thq] at z
  apply z <;> assumption
theorem wp_eq {r : R α} {v : α} {Q : α → Sto → Prop} (h : r = .ok v S) (q : Q v S) : wp r Q X := by
  have z := @wq_eq
  simp only [wq_wp, wg_wf, thq] at z
  apply z <;> assumption
theorem wf_nx {K : KF} (q : K.nx E S) : wf (.nx E S) K := by
  have z := @wg_nx
  simp only [wq_wp, wg_wf, thq] at z
  apply z <;> assumption
theorem wf_rt {K : KF} {v : IV} (q : K.rt v S) : wf (.rt v S) K := by
  have z := @wg_rt
  simp only [wq_wp, wg_wf, thq] at z
  apply z <;> assumption
theorem wf_bk {K : KF} (q : K.bk E S) : wf (.bk E S) K := by
  have z := @wg_bk
  simp only [wq_wp, wg_wf, thq] at z
  apply z <;> assumption
theorem wf_ct {K : KF} (q : K.ct E S) : wf (.ct E S) K := by
  have z := @wg_ct
  simp only [wq_wp, wg_wf, thq] at z
  apply z <;> assumption
theorem wp_mono {r : R α} {Q Q' : α → Sto → Prop} {X' : Ex → Sto → Prop} (h : wp r Q X) (hq : ∀ v S, Q v S → Q' v S) (hx : ∀ e S, X e S → X' e S) : wp r Q' X' := by
  have z := @wq_mono
  simp only [wq_wp, wg_wf, thq] at z
  apply z <;> assumption
theorem wp_imp {r : R α} {Q Q' : α → Sto → Prop} (h : wp r Q NoX) (hq : ∀ v S, Q v S → Q' v S) : wp r Q' X := by
  have z := @wq_imp
  simp only [wq_wp, wg_wf, thq] at z
  apply z <;> assumption
theorem wp_ex {r : R α} {Q : α → Sto → Prop} (h : wp r Q NoX) : ∃ v S, r = .ok v S ∧ Q v S := by
  have z := @wq_ex
  simp only [wq_wp, wg_wf, thq] at z
  apply z <;> assumption
theorem wp_exv {r : R α} {v : α} (h : wp r (fun w _ => w = v) NoX) : ∃ S, r = .ok v S := by
  have z := @wq_exv
  simp only [wq_wp, wg_wf, thq] at z
  apply z <;> assumption
theorem wp_bind {r : R α} {k : α → Sto → R β} {Q : β → Sto → Prop} (h : wp r (fun v S1 => wp (k v S1) Q X) X) : wp (r.bind k) Q X := by
  have z := @wq_bind
  simp only [wq_wp, wg_wf, thq] at z
  apply z <;> assumption
theorem wf_to {r : R α} {k : α → Sto → Fl} {K : KF} (h : wp r (fun v S1 => wf (k v S1) K) (fun e S1 => K.ex e E S1)) : wf (r.to E k) K := by
  have z := @wg_to
  simp only [wq_wp, wg_wf, thq] at z
  apply z <;> assumption
variable {Q : IV → Sto → Prop} {QB : Bool → Sto → Prop} {QA : List IV → Sto → Prop} {K : KF}
theorem wp_mC {v : IV} (h : Q v S) : wp (mC v E S) Q X := by
  have z := @wq_mC
  simp only [wq_wp, wg_wf, thq] at z
  apply z <;> assumption
theorem wp_mV {i : Nat} {v : IV} (e : E[i]? = some (some v)) (h : Q v S) : wp (mV i E S) Q X := by
  have z := @wq_mV
  simp only [wq_wp, wg_wf, thq] at z
  apply z <;> assumption
theorem wp_mB {f : MO} {ma mb : ME} (h : wp (ma E S) (fun a S1 => wp (mb E S1) (fun b S2 => wp (f a b S2) Q X) X) X) : wp (mB f ma mb E S) Q X := by
  have z := @wq_mB
  simp only [wq_wp, wg_wf, thq] at z
  apply z <;> assumption
theorem wp_mU {f : IV → Sto → R IV} {ma : ME} (h : wp (ma E S) (fun a S1 => wp (f a S1) Q X) X) : wp (mU f ma E S) Q X := by
  have z := @wq_mU
  simp only [wq_wp, wg_wf, thq] at z
  apply z <;> assumption
theorem wp_mTB {m : ME} (h : wp (m E S) (fun v S1 => ∃ b, v = .bl b ∧ QB b S1) X) : wp (mTB m E S) QB X := by
  have z := @wq_mTB
  simp only [wq_wp, wg_wf, thq] at z
  apply z <;> assumption
theorem wp_mTru {m : ME} (h : wp (m E S) (fun v S1 => ∃ b, truI S1 v = some b ∧ QB b S1) X) : wp (mTru m E S) QB X := by
  have z := @wq_mTru
  simp only [wq_wp, wg_wf, thq] at z
  apply z <;> assumption
theorem wp_mAndT {t u : MT} (h : wp (t E S) (fun b S1 => cnd b (wp (u E S1) QB X) (QB false S1)) X) : wp (mAndT t u E S) QB X := by
  have z := @wq_mAndT
  simp only [wq_wp, wg_wf, thq] at z
  apply z <;> assumption
theorem wp_mOrT {t u : MT} (h : wp (t E S) (fun b S1 => cnd b (QB true S1) (wp (u E S1) QB X)) X) : wp (mOrT t u E S) QB X := by
  have z := @wq_mOrT
  simp only [wq_wp, wg_wf, thq] at z
  apply z <;> assumption
theorem wp_mNotT {t : MT} (h : wp (t E S) (fun b S1 => QB (!b) S1) X) : wp (mNotT t E S) QB X := by
  have z := @wq_mNotT
  simp only [wq_wp, wg_wf, thq] at z
  apply z <;> assumption
theorem wp_mYes (h : QB true S) : wp (mYes E S) QB X := by
  have z := @wq_mYes
  simp only [wq_wp, wg_wf, thq] at z
  apply z <;> assumption
theorem wp_mAndV {ma mb : ME} (h : wp (ma E S) (fun v S1 => ∃ b, v = .bl b ∧ cnd b (wp (mb E S1) Q X) (Q (.bl false) S1)) X) : wp (mAndV ma mb E S) Q X := by
  have z := @wq_mAndV
  simp only [wq_wp, wg_wf, thq] at z
  apply z <;> assumption
theorem wp_mOrV {ma mb : ME} (h : wp (ma E S) (fun v S1 => ∃ b, v = .bl b ∧ cnd b (Q (.bl true) S1) (wp (mb E S1) Q X)) X) : wp (mOrV ma mb E S) Q X := by
  have z := @wq_mOrV
  simp only [wq_wp, wg_wf, thq] at z
  apply z <;> assumption
theorem wp_mIf {t : MT} {ma mb : ME} (h : wp (t E S) (fun b S1 => cnd b (wp (ma E S1) Q X) (wp (mb E S1) Q X)) X) : wp (mIf t ma mb E S) Q X := by
  have z := @wq_mIf
  simp only [wq_wp, wg_wf, thq] at z
  apply z <;> assumption
theorem wp_mChain {f g : MO} {ma mb mc : ME} (h : wp (ma E S) (fun a S1 => wp (mb E S1) (fun b S2 => wp (f a b S2) (fun v S3 => ∃ c, v = .bl c ∧ cnd c (wp (mc E S3) (fun c S4 => wp (g b c S4) Q X) X) (Q (.bl false) S3)) X) X) X) : wp (mChain f g ma mb mc E S) Q X := by
  have z := @wq_mChain
  simp only [wq_wp, wg_wf, thq] at z
  apply z <;> assumption
theorem wp_mNil (h : QA [] S) : wp (mNil E S) QA X := by
  have z := @wq_mNil
  simp only [wq_wp, wg_wf, thq] at z
  apply z <;> assumption
theorem wp_mCons {m : ME} {ms : MA} (h : wp (m E S) (fun v S1 => wp (ms E S1) (fun vs S2 => QA (v :: vs) S2) X) X) : wp (mCons m ms E S) QA X := by
  have z := @wq_mCons
  simp only [wq_wp, wg_wf, thq] at z
  apply z <;> assumption
theorem wp_mTup {ms : MA} (h : wp (ms E S) (fun vs S1 => fullLen vs.length = true ∧ Q (.tup vs) S1) X) : wp (mTup ms E S) Q X := by
  have z := @wq_mTup
  simp only [wq_wp, wg_wf, thq] at z
  apply z <;> assumption
theorem wp_mLst {ms : MA} (h : wp (ms E S) (fun vs S1 => fullLen vs.length = true ∧ Q (.ref S1.top) (S1.new (.lst vs))) X) : wp (mLst ms E S) Q X := by
  have z := @wq_mLst
  simp only [wq_wp, wg_wf, thq] at z
  apply z <;> assumption
theorem wp_mCall {f : MF} {ms : MA} (h : wp (ms E S) (fun vs S1 => wp (f vs S1) Q X) X) : wp (mCall f ms E S) Q X := by
  have z := @wq_mCall
  simp only [wq_wp, wg_wf, thq] at z
  apply z <;> assumption
theorem wp_mCallO {f : MF} {ms : MA} (h : wp (ms E S) (fun vs S1 => wp (own f vs S1) Q X) X) : wp (mCallO f ms E S) Q X := by
  have z := @wq_mCallO
  simp only [wq_wp, wg_wf, thq] at z
  apply z <;> assumption
theorem wp_mInR {neg : Bool} {ma : ME} {ms : MA} (h : wp (ma E S) (fun x S1 => wp (ms E S1) (fun as S2 => wp (fInR neg x as S2) Q X) X) X) : wp (mInR neg ma ms E S) Q X := by
  have z := @wq_mInR
  simp only [wq_wp, wg_wf, thq] at z
  apply z <;> assumption
theorem wp_fInR {neg : Bool} {i j : Int} (h : Q (.bl (if neg then !decide (0 ≤ i ∧ i < j) else decide (0 ≤ i ∧ i < j))) S) : wp (fInR neg (.int i) [.int j] S) Q X := by
  have z := @wq_fInR
  simp only [wq_wp, wg_wf, thq] at z
  apply z <;> assumption
theorem wp_mMet {f : IV → List IV → Sto → R IV} {m : ME} {ms : MA} (h : wp (m E S) (fun a S1 => tyOf S1 a = some .list ∧ wp (ms E S1) (fun as S2 => wp (f a as S2) Q X) X) X) : wp (mMet f m ms E S) Q X := by
  have z := @wq_mMet
  simp only [wq_wp, wg_wf, thq] at z
  apply z <;> assumption
theorem wp_mNoP {QP : Option Int → Sto → Prop} (h : QP none S) : wp (mNoP E S) QP X := by
  have z := @wq_mNoP
  simp only [wq_wp, wg_wf, thq] at z
  apply z <;> assumption
theorem wp_mP {m : ME} {QP : Option Int → Sto → Prop} (h : wp (m E S) (fun v S1 => ∃ i, v = .int i ∧ QP (some i) S1) X) : wp (mP m E S) QP X := by
  have z := @wq_mP
  simp only [wq_wp, wg_wf, thq] at z
  apply z <;> assumption
theorem wp_mSl {m : ME} {l u : MP} (h : wp (m E S) (fun a S1 => wp (l E S1) (fun lo S2 => wp (u E S2) (fun hi S3 => wp (fSl a lo hi S3) Q X) X) X) X) : wp (mSl m l u E S) Q X := by
  have z := @wq_mSl
  simp only [wq_wp, wg_wf, thq] at z
  apply z <;> assumption
theorem wp_add {i j : Int} (h : Q (.int (i + j)) S) : wp (fAdd (.int i) (.int j) S) Q X := by
  have z := @wq_add
  simp only [wq_wp, wg_wf, thq] at z
  apply z <;> assumption
theorem wp_addI {i j : Int} (h : Q (.int (i + j)) S) : wp (fAddI (.int i) (.int j) S) Q X := by
  have z := @wq_addI
  simp only [wq_wp, wg_wf, thq] at z
  apply z <;> assumption
theorem wp_sub {i j : Int} (h : Q (.int (i - j)) S) : wp (fSub (.int i) (.int j) S) Q X := by
  have z := @wq_sub
  simp only [wq_wp, wg_wf, thq] at z
  apply z <;> assumption
theorem wp_neg {i : Int} (h : Q (.int (-i)) S) : wp (fNeg (.int i) S) Q X := by
  have z := @wq_neg
  simp only [wq_wp, wg_wf, thq] at z
  apply z <;> assumption
theorem wp_notV {b : Bool} (h : Q (.bl (!b)) S) : wp (fNotV (.bl b) S) Q X := by
  have z := @wq_notV
  simp only [wq_wp, wg_wf, thq] at z
  apply z <;> assumption
theorem wp_mul {i j : Int} (e : mulFit i j = true) (h : Q (.int (i * j)) S) : wp (fMul (.int i) (.int j) S) Q X := by
  have z := @wq_mul
  simp only [wq_wp, wg_wf, thq] at z
  apply z <;> assumption
theorem wp_div {i j : Int} (e : divFit j = true) (h : Q (.int (i / j)) S) : wp (fDiv (.int i) (.int j) S) Q X := by
  have z := @wq_div
  simp only [wq_wp, wg_wf, thq] at z
  apply z <;> assumption
theorem wp_divS {i j : Int} (e0 : 0 < j) (e1 : j < 1073741824) (h : Q (.int (i / j)) S) : wp (fDivS (.int i) (.int j) S) Q X := by
  have z := @wq_divS
  simp only [wq_wp, wg_wf, thq] at z
  apply z <;> assumption
theorem wp_mod {i j : Int} (e : 0 < j) (h : Q (.int (i % j)) S) : wp (fMod (.int i) (.int j) S) Q X := by
  have z := @wq_mod
  simp only [wq_wp, wg_wf, thq] at z
  apply z <;> assumption
theorem wp_pow {i j : Int} (e : powFit i j = true) (h : Q (.int (i ^ j.toNat)) S) : wp (fPow (.int i) (.int j) S) Q X := by
  have z := @wq_pow
  simp only [wq_wp, wg_wf, thq] at z
  apply z <;> assumption
theorem wp_cmp {p : Int → Int → Bool} {i j : Int} (h : Q (.bl (p i j)) S) : wp (fCmpI p (.int i) (.int j) S) Q X := by
  have z := @wq_cmp
  simp only [wq_wp, wg_wf, thq] at z
  apply z <;> assumption
theorem wp_eqI {i j : Int} (h : Q (.bl (decide (i = j))) S) : wp (fEq (.int i) (.int j) S) Q X := by
  have z := @wq_eqI
  simp only [wq_wp, wg_wf, thq] at z
  apply z <;> assumption
theorem wp_neI {i j : Int} (h : Q (.bl (!decide (i = j))) S) : wp (fNe (.int i) (.int j) S) Q X := by
  have z := @wq_neI
  simp only [wq_wp, wg_wf, thq] at z
  apply z <;> assumption
theorem wp_eqG {a b : IV} {c : Bool} (e : eqIV S a b = some c) (h : Q (.bl c) S) : wp (fEq a b S) Q X := by
  have z := @wq_eqG
  simp only [wq_wp, wg_wf, thq] at z
  apply z <;> assumption
theorem wp_neG {a b : IV} {c : Bool} (e : eqIV S a b = some c) (h : Q (.bl (!c)) S) : wp (fNe a b S) Q X := by
  have z := @wq_neG
  simp only [wq_wp, wg_wf, thq] at z
  apply z <;> assumption
theorem wp_inG {a b : IV} {c : Bool} (e : inIV S a b = some c) (h : Q (.bl c) S) : wp (fIn a b S) Q X := by
  have z := @wq_inG
  simp only [wq_wp, wg_wf, thq] at z
  apply z <;> assumption
theorem wp_notInG {a b : IV} {c : Bool} (e : inIV S a b = some c) (h : Q (.bl (!c)) S) : wp (fNotIn a b S) Q X := by
  have z := @wq_notInG
  simp only [wq_wp, wg_wf, thq] at z
  apply z <;> assumption
theorem wp_isN {a : IV} (h : Q (.bl (isNon a)) S) : wp (fIsN a .non S) Q X := by
  have z := @wq_isN
  simp only [wq_wp, wg_wf, thq] at z
  apply z <;> assumption
theorem wp_notN {a : IV} (h : Q (.bl (!isNon a)) S) : wp (fNotN a .non S) Q X := by
  have z := @wq_notN
  simp only [wq_wp, wg_wf, thq] at z
  apply z <;> assumption
theorem wp_ixT {xs : List IV} {i : Int} {v : IV} (e : atI xs i = some v) (h : Q v S) : wp (fIx (.tup xs) (.int i) S) Q X := by
  have z := @wq_ixT
  simp only [wq_wp, wg_wf, thq] at z
  apply z <;> assumption
theorem wp_ixF {xs : List IV} {i : Int} {v : IV} (e : atI xs i = some v) (h : Q v S) : wp (fIx (.frz xs) (.int i) S) Q X := by
  have z := @wq_ixF
  simp only [wq_wp, wg_wf, thq] at z
  apply z <;> assumption
theorem wp_ixL {n : Nat} {xs : List IV} {i : Int} {v : IV} (g : S.get n = some (.lst xs)) (e : atI xs i = some v) (h : Q v S) : wp (fIx (.ref n) (.int i) S) Q X := by
  have z := @wq_ixL
  simp only [wq_wp, wg_wf, thq] at z
  apply z <;> assumption
theorem wp_slT {xs : List IV} {lo hi : Option Int} (h : Q (.tup (cutI xs lo hi)) S) : wp (fSl (.tup xs) lo hi S) Q X := by
  have z := @wq_slT
  simp only [wq_wp, wg_wf, thq] at z
  apply z <;> assumption
theorem wp_revT {xs : List IV} (h : Q (.tup xs.reverse) S) : wp (fRev (.tup xs) S) Q X := by
  have z := @wq_revT
  simp only [wq_wp, wg_wf, thq] at z
  apply z <;> assumption
theorem wp_revL {n : Nat} {xs : List IV} (g : S.get n = some (.lst xs)) (h : Q (.ref S.top) (S.new (.lst xs.reverse))) : wp (fRev (.ref n) S) Q X := by
  have z := @wq_revL
  simp only [wq_wp, wg_wf, thq] at z
  apply z <;> assumption
theorem wp_lenT {xs : List IV} (h : Q (.int xs.length) S) : wp (bLen [.tup xs] S) Q X := by
  have z := @wq_lenT
  simp only [wq_wp, wg_wf, thq] at z
  apply z <;> assumption
theorem wp_lenF {xs : List IV} (h : Q (.int xs.length) S) : wp (bLen [.frz xs] S) Q X := by
  have z := @wq_lenF
  simp only [wq_wp, wg_wf, thq] at z
  apply z <;> assumption
theorem wp_lenL {n : Nat} {xs : List IV} (g : S.get n = some (.lst xs)) (h : Q (.int xs.length) S) : wp (bLen [.ref n] S) Q X := by
  have z := @wq_lenL
  simp only [wq_wp, wg_wf, thq] at z
  apply z <;> assumption
theorem wp_abs {i : Int} (h : Q (.int (if i < 0 then -i else i)) S) : wp (bAbs [.int i] S) Q X := by
  have z := @wq_abs
  simp only [wq_wp, wg_wf, thq] at z
  apply z <;> assumption
theorem wp_int {i : Int} (h : Q (.int i) S) : wp (bInt [.int i] S) Q X := by
  have z := @wq_int
  simp only [wq_wp, wg_wf, thq] at z
  apply z <;> assumption
theorem wp_intB {b : Bool} (h : Q (.int (if b then 1 else 0)) S) : wp (bInt [.bl b] S) Q X := by
  have z := @wq_intB
  simp only [wq_wp, wg_wf, thq] at z
  apply z <;> assumption
theorem wp_max {i j : Int} (h : Q (.int (if j > i then j else i)) S) : wp (bMax [.int i, .int j] S) Q X := by
  have z := @wq_max
  simp only [wq_wp, wg_wf, thq] at z
  apply z <;> assumption
theorem wp_min {i j : Int} (h : Q (.int (if j < i then j else i)) S) : wp (bMin [.int i, .int j] S) Q X := by
  have z := @wq_min
  simp only [wq_wp, wg_wf, thq] at z
  apply z <;> assumption
theorem wp_gcd {i j : Int} (h : Q (.int ((Nat.gcd i.natAbs j.natAbs : Nat) : Int)) S) : wp (bGcd [.int i, .int j] S) Q X := by
  have z := @wq_gcd
  simp only [wq_wp, wg_wf, thq] at z
  apply z <;> assumption
theorem wp_tupT {xs : List IV} (h : Q (.tup xs) S) : wp (bTuple [.tup xs] S) Q X := by
  have z := @wq_tupT
  simp only [wq_wp, wg_wf, thq] at z
  apply z <;> assumption
theorem wp_tupL {n : Nat} {xs : List IV} (g : S.get n = some (.lst xs)) (h : Q (.tup xs) S) : wp (bTuple [.ref n] S) Q X := by
  have z := @wq_tupL
  simp only [wq_wp, wg_wf, thq] at z
  apply z <;> assumption
theorem wp_listT {xs : List IV} (h : Q (.ref S.top) (S.new (.lst xs))) : wp (bList [.tup xs] S) Q X := by
  have z := @wq_listT
  simp only [wq_wp, wg_wf, thq] at z
  apply z <;> assumption
theorem wp_listL {n : Nat} {xs : List IV} (g : S.get n = some (.lst xs)) (h : Q (.ref S.top) (S.new (.lst xs))) : wp (bList [.ref n] S) Q X := by
  have z := @wq_listL
  simp only [wq_wp, wg_wf, thq] at z
  apply z <;> assumption
theorem wp_isI {x : IV} {n t : BT} (e : tyOf S x = some t) (e2 : noneB n = false) (h : Q (.bl (isB t n)) S) : wp (bIsI [x, .ty n] S) Q X := by
  have z := @wq_isI
  simp only [wq_wp, wg_wf, thq] at z
  apply z <;> assumption
theorem wp_sumL {n : Nat} {l : List Int} (g : S.get n = some (.lst (l.map IV.int))) (h : Q (.int l.sum) S) : wp (bSum [.ref n] S) Q X := by
  have z := @wq_sumL
  simp only [wq_wp, wg_wf, thq] at z
  apply z <;> assumption
theorem wp_allL {n : Nat} {l : List Bool} (g : S.get n = some (.lst (l.map IV.bl))) (h : Q (.bl (l.all id)) S) : wp (bAll [.ref n] S) Q X := by
  have z := @wq_allL
  simp only [wq_wp, wg_wf, thq] at z
  apply z <;> assumption
theorem wp_anyL {n : Nat} {l : List Bool} (g : S.get n = some (.lst (l.map IV.bl))) (h : Q (.bl (l.any id)) S) : wp (bAny [.ref n] S) Q X := by
  have z := @wq_anyL
  simp only [wq_wp, wg_wf, thq] at z
  apply z <;> assumption
theorem wp_append {n : Nat} {xs : List IV} {v : IV} (g : S.get n = some (.lst xs)) (e : xs.length < 16777216) (h : Q .non (S.put n (.lst (xs ++ [v])))) : wp (fAppend (.ref n) [v] S) Q X := by
  have z := @wq_append
  simp only [wq_wp, wg_wf, thq] at z
  apply z <;> assumption
theorem wp_lstRg1 {b : Int} (e : rgFit 0 b = true) (h : Q (.ref S.top) (S.new (.lst (rangeI 0 b.toNat)))) : wp (fLstRg1 (.int b) S) Q X := by
  have z := @wq_lstRg1
  simp only [wq_wp, wg_wf, thq] at z
  apply z <;> assumption
theorem wp_lstRg2 {a b : Int} (e : rgFit a b = true) (h : Q (.ref S.top) (S.new (.lst (rangeI a (b - a).toNat)))) : wp (fLstRg2 (.int a) (.int b) S) Q X := by
  have z := @wq_lstRg2
  simp only [wq_wp, wg_wf, thq] at z
  apply z <;> assumption
theorem wp_own {f : MF} {as : List IV} (ha : flatRs as = true) (h : wp (f as ⟨0, []⟩) (fun v _ => flatR v = true ∧ Q v S) (fun _ _ => False)) : wp (own f as S) Q X := by
  have z := @wq_own
  simp only [wq_wp, wg_wf, thq] at z
  apply z <;> assumption
theorem wp_ownC {f : MF} {as : List IV} (ha : flatRs as = false) (h : wp (f as S) Q X) : wp (own f as S) Q X := by
  have z := @wq_ownC
  simp only [wq_wp, wg_wf, thq] at z
  apply z <;> assumption
theorem wf_mono {r : Fl} {K' : KF} (h : wf r K) (h1 : ∀ E S, K.nx E S → K'.nx E S) (h2 : ∀ v S, K.rt v S → K'.rt v S) (h3 : ∀ E S, K.bk E S → K'.bk E S) (h4 : ∀ E S, K.ct E S → K'.ct E S) (h5 : ∀ e E S, K.ex e E S → K'.ex e E S) : wf r K' := by
  have z := @wg_mono
  simp only [wq_wp, wg_wf, thq] at z
  apply z <;> assumption
theorem kt_nx {b : MS} (h : wf (b E S) K) : (KF.then b K).nx E S := by
  have z := @kq_nx
  simp only [wq_wp, wg_wf, thq] at z
  apply z <;> assumption
theorem kt_rt {b : MS} {v : IV} (h : K.rt v S) : (KF.then b K).rt v S := by
  have z := @kq_rt
  simp only [wq_wp, wg_wf, thq] at z
  apply z <;> assumption
theorem kt_bk {b : MS} (h : K.bk E S) : (KF.then b K).bk E S := by
  have z := @kq_bk
  simp only [wq_wp, wg_wf, thq] at z
  apply z <;> assumption
theorem kt_ct {b : MS} (h : K.ct E S) : (KF.then b K).ct E S := by
  have z := @kq_ct
  simp only [wq_wp, wg_wf, thq] at z
  apply z <;> assumption
theorem kt_ex {b : MS} {e : Ex} (h : K.ex e E S) : (KF.then b K).ex e E S := by
  have z := @kq_ex
  simp only [wq_wp, wg_wf, thq] at z
  apply z <;> assumption
theorem wf_seq {a b : MS} (h : wf (a E S) (KF.then b K)) : wf (mSeq a b E S) K := by
  have z := @wg_seq
  simp only [wq_wp, wg_wf, thq] at z
  apply z <;> assumption
theorem wf_skip (h : K.nx E S) : wf (mSkip E S) K := by
  have z := @wg_skip
  simp only [wq_wp, wg_wf, thq] at z
  apply z <;> assumption
theorem wf_brk (h : K.bk E S) : wf (mBrk E S) K := by
  have z := @wg_brk
  simp only [wq_wp, wg_wf, thq] at z
  apply z <;> assumption
theorem wf_cont (h : K.ct E S) : wf (mCont E S) K := by
  have z := @wg_cont
  simp only [wq_wp, wg_wf, thq] at z
  apply z <;> assumption
theorem wf_retN (h : K.rt .non S) : wf (mRetN E S) K := by
  have z := @wg_retN
  simp only [wq_wp, wg_wf, thq] at z
  apply z <;> assumption
theorem wf_drop {m : ME} (h : wp (m E S) (fun _ S1 => K.nx E S1) (fun e S1 => K.ex e E S1)) : wf (mDrop m E S) K := by
  have z := @wg_drop
  simp only [wq_wp, wg_wf, thq] at z
  apply z <;> assumption
theorem wf_ret {m : ME} (h : wp (m E S) (fun v S1 => K.rt v S1) (fun e S1 => K.ex e E S1)) : wf (mRet m E S) K := by
  have z := @wg_ret
  simp only [wq_wp, wg_wf, thq] at z
  apply z <;> assumption
theorem wf_if {t : MT} {a b : MS} (h : wp (t E S) (fun c S1 => cnd c (wf (a E S1) K) (wf (b E S1) K)) (fun e S1 => K.ex e E S1)) : wf (mIfS t a b E S) K := by
  have z := @wg_if
  simp only [wq_wp, wg_wf, thq] at z
  apply z <;> assumption
theorem wf_set {i : Nat} {m : ME} (h : wp (m E S) (fun v S1 => ∃ E1, SetL E i (some v) E1 ∧ K.nx E1 S1) (fun e S1 => K.ex e E S1)) : wf (mSet i m E S) K := by
  have z := @wg_set
  simp only [wq_wp, wg_wf, thq] at z
  apply z <;> assumption
theorem wf_aug {i : Nat} {f : MO} {m : ME} {x : IV} (e : E[i]? = some (some x)) (h : wp (m E S) (fun y S1 => wp (f x y S1) (fun z S2 => ∃ E1, SetL E i (some z) E1 ∧ K.nx E1 S2) (fun e S1 => K.ex e E S1)) (fun e S1 => K.ex e E S1)) : wf (mAug i f m E S) K := by
  have z := @wg_aug
  simp only [wq_wp, wg_wf, thq] at z
  apply z <;> assumption
theorem wf_par {i j : Nat} {ms : MA} (h : wp (ms E S) (fun vs S1 => ∃ v w E1 E2, vs = [v, w] ∧ SetL E i (some v) E1 ∧ SetL E1 j (some w) E2 ∧ K.nx E2 S1) (fun e S1 => K.ex e E S1)) : wf (mPar i j ms E S) K := by
  have z := @wg_par
  simp only [wq_wp, wg_wf, thq] at z
  apply z <;> assumption
theorem wf_par3 {i j l : Nat} {ms : MA} (h : wp (ms E S) (fun vs S1 => ∃ v w u E1 E2 E3, vs = [v, w, u] ∧ SetL E i (some v) E1 ∧ SetL E1 j (some w) E2 ∧ SetL E2 l (some u) E3 ∧ K.nx E3 S1) (fun e S1 => K.ex e E S1)) : wf (mPar3 i j l ms E S) K := by
  have z := @wg_par3
  simp only [wq_wp, wg_wf, thq] at z
  apply z <;> assumption
theorem wf_asg {b : Tg} {m : ME} (h : wp (m E S) (fun v S1 => ∃ E1, BindL b v E E1 ∧ K.nx E1 S1) (fun e S1 => K.ex e E S1)) : wf (mAsg b m E S) K := by
  have z := @wg_asg
  simp only [wq_wp, wg_wf, thq] at z
  apply z <;> assumption
theorem wf_put {o i m : ME} (h : wp (m E S) (fun v S1 => wp (o E S1) (fun a S2 => wp (i E S2) (fun b S3 => ∃ S4, fPut a b v S3 = some S4 ∧ K.nx E S4) (fun e S1 => K.ex e E S1)) (fun e S1 => K.ex e E S1)) (fun e S1 => K.ex e E S1)) : wf (mPut o i m E S) K := by
  have z := @wg_put
  simp only [wq_wp, wg_wf, thq] at z
  apply z <;> assumption
theorem wp_def {n : Nat} {b : MS} {as : List IV} (E : Env') (hE : as.map some ++ List.replicate (n - as.length) none = E) (h : wf (b E S) (KF.fn Q X)) : wp (mDef n b as S) Q X := by
  have z := @wq_def
  simp only [wq_wp, wg_wf, thq] at z
  apply z <;> assumption
theorem wf_while {t : MT} {b : MS} {n : Nat} (I : Nat → Env' → Sto → Prop) (k : Nat) (hk : k < n) (h0 : I k E S)
    (hs : ∀ k E S, I k E S → wp (t E S) (fun c S1 => cnd c (wf (b E S1) (KF.loop (fun E2 S2 => ∃ k', k' < k ∧ I k' E2 S2) K)) (K.nx E S1)) (fun e S1 => K.ex e E S1)) : wf (mWhile t b n E S) K := by
  have z := @wg_while
  simp only [wq_wp, wg_wf, thq] at z
  apply z <;> assumption
theorem wf_for {N : Nat} {mi : MI} {tg : Tg} {b : MS} (h : wp (mi E S) (fun k S1 => wf (mForGo tg b N k E S1) K) (fun e S1 => K.ex e E S1)) : wf (mFor N mi tg b E S) K := by
  have z := @wg_for
  simp only [wq_wp, wg_wf, thq] at z
  apply z <;> assumption
theorem wf_items {tg : Tg} {b : MS} {N : Nat} {xs : List IV} (I : Nat → Env' → Sto → Prop) (hN : xs.length < N) (h0 : I 0 E S)
    (hs : ∀ i x E S, xs[i]? = some x → I i E S → ∃ E1, bindT tg x E = some E1 ∧ wf (b E1 S) (KF.loop (I (i + 1)) K))
    (he : ∀ E S, I xs.length E S → K.nx E S) : wf (mForGo tg b N (.items xs) E S) K := by
  have z := @wg_items
  simp only [wq_wp, wg_wf, thq] at z
  apply z <;> assumption
theorem wf_cell {tg : Tg} {b : MS} {N n : Nat} {xs : List IV} (I : Nat → Env' → Sto → Prop) (hN : xs.length < N) (h0 : I 0 E S) (hg : ∀ i E S, I i E S → S.get n = some (.lst xs))
    (hs : ∀ i x E S, xs[i]? = some x → I i E S → ∃ E1, bindT tg x E = some E1 ∧ wf (b E1 S) (KF.loop (I (i + 1)) K))
    (he : ∀ E S, I xs.length E S → K.nx E S) : wf (mForGo tg b N (.cell n 0) E S) K := by
  have z := @wg_cell
  simp only [wq_wp, wg_wf, thq] at z
  apply z <;> assumption
theorem wp_mWk {f : List IV → Sto → R Wk} {ms : MA} {QW : Wk → Sto → Prop} (h : wp (ms E S) (fun vs S1 => wp (f vs S1) QW X) X) : wp (mWk f ms E S) QW X := by
  have z := @wq_mWk
  simp only [wq_wp, wg_wf, thq] at z
  apply z <;> assumption
theorem wp_range1 {j : Int} {QW : Wk → Sto → Prop} (e : in62 j = true) (h : QW (.items (rangeI 0 j.toNat)) S) : wp (fRange [.int j] S) QW X := by
  have z := @wq_range1
  simp only [wq_wp, wg_wf, thq] at z
  apply z <;> assumption
theorem wp_range2 {i j : Int} {QW : Wk → Sto → Prop} (e1 : in62 i = true) (e2 : in62 j = true) (h : QW (.items (rangeI i (j - i).toNat)) S) : wp (fRange [.int i, .int j] S) QW X := by
  have z := @wq_range2
  simp only [wq_wp, wg_wf, thq] at z
  apply z <;> assumption
theorem wp_rangeD {i j : Int} {QW : Wk → Sto → Prop} (e1 : in62 i = true) (e2 : in62 j = true) (h : QW (.items (rangeC i (-1) (i - j).toNat)) S) : wp (fRange [.int i, .int j, .int (-1)] S) QW X := by
  have z := @wq_rangeD
  simp only [wq_wp, wg_wf, thq] at z
  apply z <;> assumption
theorem wp_enumT {xs : List IV} {QW : Wk → Sto → Prop} (h : QW (.items (pairsI 0 xs)) S) : wp (fEnum [.tup xs] S) QW X := by
  have z := @wq_enumT
  simp only [wq_wp, wg_wf, thq] at z
  apply z <;> assumption
theorem wp_seqT {m : ME} {QW : Wk → Sto → Prop} (h : wp (m E S) (fun v S1 => (∃ xs, v = .tup xs ∧ QW (.items xs) S1) ∨ ∃ n xs, v = .ref n ∧ S1.get n = some (.lst xs) ∧ QW (.cell n 0) S1) X) : wp (mSeqW m E S) QW X := by
  have z := @wq_seqT
  simp only [wq_wp, wg_wf, thq] at z
  apply z <;> assumption
theorem wp_lc {n : Nat} {mi : MI} {tg : Tg} {t : MT} {e : ME} {vs : List Nat} (h : wp (mi E S) (fun k S1 => wp (mLcGo tg t e n k [] (wipeE E vs) S1) (fun xs S2 => Q (.ref S2.top) (S2.new (.lst xs))) X) X) : wp (mLc n mi tg t e vs E S) Q X := by
  have z := @wq_lc
  simp only [wq_wp, wg_wf, thq] at z
  apply z <;> assumption
def LcStep (tg : Tg) (t : MT) (e : ME) (E : Env') (S : Sto) (x : IV) (J : List IV → Sto → Prop) : Prop :=
  ∃ E1, bindT tg x E = some E1 ∧ wp (t E1 S) (fun c S1 => cnd c (wp (e E1 S1) (fun y S2 => J [y] S2) NoX) (J [] S1)) NoX
theorem lcq : @LcStepq = @LcStep := by
  funext tg t e E S x J
  unfold LcStepq LcStep
  rw [wq_wp]
theorem wp_lcGo {tg : Tg} {t : MT} {e : ME} {QL : List IV → Sto → Prop} {N : Nat} {xs acc : List IV} (I : Nat → List IV → Sto → Prop) (hN : xs.length < N) (h0 : I 0 acc.reverse S)
    (hs : ∀ i x a S, xs[i]? = some x → I i a S → LcStep tg t e E S x fun y S2 => I (i + 1) (a ++ y) S2)
    (he : ∀ a S, I xs.length a S → QL a S) : wp (mLcGo tg t e N (.items xs) acc E S) QL X := by
  have z := @wq_lcGo
  simp only [wq_wp, wg_wf, thq, lcq] at z
  apply z <;> assumption
theorem wp_lcCell {tg : Tg} {t : MT} {e : ME} {QL : List IV → Sto → Prop} {N n : Nat} {xs : List IV} (I : Nat → List IV → Sto → Prop) (hN : xs.length < N) (h0 : I 0 [] S) (hg : ∀ i a S, I i a S → S.get n = some (.lst xs))
    (hs : ∀ i x a S, xs[i]? = some x → I i a S → LcStep tg t e E S x fun y S2 => I (i + 1) (a ++ y) S2)
    (he : ∀ a S, I xs.length a S → QL a S) : wp (mLcGo tg t e N (.cell n 0) [] E S) QL X := by
  have z := @wq_lcCell
  simp only [wq_wp, wg_wf, thq, lcq] at z
  apply z <;> assumption
end
namespace Dice
theorem wp_roll {S : Sto} {n k : Nat} {t : Int} {Q : IV → Sto → Prop} {X : Ex → Sto → Prop} (h : At S n k) (ht : 0 < t) (ht2 : divFit t = true) (hk : k < 2 ^ 40) (q : ∀ (r : Nat) (S' : Sto), (r : Int) < t → At S' n (k + 1) → KeepBut n S S' → S'.top = S.top → Q (.int r) S') : wp (own m__law_roll [.ref n, .int t] S) Q X := by
  have z := @wq_roll
  simp only [wq_wp, wg_wf, thq] at z
  apply z <;> assumption
theorem wp_one_of {S : Sto} {n m k : Nat} {xs : List IV} {Q : IV → Sto → Prop} {X : Ex → Sto → Prop} (h : At S n k) (hm : m ≠ n) (g : S.get m = some (.lst xs)) (hx : 0 < xs.length) (hx2 : xs.length < 2 ^ 20) (hk : k < 2 ^ 40) (q : ∀ v S', v ∈ xs → At S' n (k + 1) → KeepBut n S S' → S'.top = S.top → Q v S') : wp (own m__law_one_of [.ref n, .ref m] S) Q X := by
  have z := @wq_one_of
  simp only [wq_wp, wg_wf, thq] at z
  apply z <;> assumption
theorem wp_one_of_tup {S : Sto} {n k : Nat} {xs : List IV} {Q : IV → Sto → Prop} {X : Ex → Sto → Prop} (h : At S n k) (hx : 0 < xs.length) (hx2 : xs.length < 2 ^ 20) (hk : k < 2 ^ 40) (q : ∀ v S', v ∈ xs → At S' n (k + 1) → KeepBut n S S' → S'.top = S.top → Q v S') : wp (own m__law_one_of [.ref n, .tup xs] S) Q X := by
  have z := @wq_one_of_tup
  simp only [wq_wp, wg_wf, thq] at z
  apply z <;> assumption
end Dice
end FX

set_option Elab.async false
set_option linter.all false
set_option maxRecDepth 100000
set_option maxHeartbeats 2000000
set_option autoImplicit false
/-! FW2: more rules -/
namespace FX
open PySem PySem.Spec PyProof.Rows L2
theorem atI_nat {α : Type} {xs : List α} {i : Nat} {v : α} (h : xs[i]? = some v) : atI xs (i : Int) = some v := by
  have hl : i < xs.length := (List.getElem?_eq_some_iff.mp h).1
  unfold L2.atI ixN
  rw [if_pos (by omega), if_pos (by omega), Int.toNat_natCast]
  exact h
theorem mulT_eq {xs : List IV} {k : Int} (hx : xs ≠ []) (hl : xs.length ≤ 1000) (h1 : -(2 ^ 63) ≤ k) (h2 : k ≤ 1000) (S : Sto) : fMulT (.tup xs) (.int k) S = .ok (.tup (List.replicate k.toNat xs).flatten) S := by
  have e0 : xs.isEmpty = false := by cases xs <;> simp_all
  unfold fMulT
  show (bif (xs.isEmpty || decide (k = 1)) && (decide (-(2 ^ 63) ≤ k) && decide (k < 2 ^ 63)) then R.ok (IV.tup xs) S else bif decide (k ≤ 0) && (decide (-(2 ^ 63) ≤ k) && !xs.isEmpty) then R.ok (IV.tup []) S else fMul (.tup xs) (.int k) S) = _
  rw [e0, decide_eq_true h1, decide_eq_true (show k < 2 ^ 63 by omega)]
  by_cases hk : k = 1
  · subst hk; simp [List.flatten]
  · rw [decide_eq_false hk]
    by_cases hk0 : k ≤ 0
    · rw [decide_eq_true hk0, show k.toNat = 0 by omega]; rfl
    · rw [decide_eq_false hk0]
      show (bif (!xs.isEmpty && decide (2 ≤ k) && decide (k ≤ 1000) && Nat.ble xs.length 1000) then R.ok (IV.tup (List.replicate k.toNat xs).flatten) S else .no) = _
      rw [e0, decide_eq_true (show 2 ≤ k by omega), decide_eq_true h2, show Nat.ble xs.length 1000 = true from Nat.ble_eq.mpr hl]
      rfl
theorem flat_one {α : Type} (v : α) : ∀ n, (List.replicate n [v]).flatten = List.replicate n v
  | 0 => rfl
  | n + 1 => by rw [List.replicate_succ, List.flatten_cons, flat_one v n, List.replicate_succ]; rfl
theorem cutI_from {xs : List IV} {s : Nat} (h : s ≤ xs.length) : cutI xs (some (s : Int)) none = xs.drop s := by
  unfold cutI
  rw [HT.sIx_nat, HT.sIx_none, Nat.min_eq_left h, List.take_of_length_le (by rw [List.length_drop]; omega)]
theorem cutI_to {xs : List IV} {s : Nat} (h : s ≤ xs.length) : cutI xs none (some (s : Int)) = xs.take s := by
  unfold cutI
  rw [HT.sIx_nat, HT.sIx_none, Nat.min_eq_left h]
  rfl
theorem nil_new (S : Sto) : eqIV ((S.new (.lst [])).new (.lst [])) (.ref S.top) (.ref (S.new (.lst [])).top) = some true :=
  (eqIV_lst ((S.new (.lst [])).new (.lst [])) S.top (S.new (.lst [])).top [] [] ((Keep.new _ _) _ _ (get_new S _)) (get_new _ _) (by decide) (by decide)).trans rfl
theorem wp_inRt {i j : Int} {S : Sto} {Q : IV → Sto → Prop} {X : Ex → Sto → Prop} (h : Q (.bl (!decide (0 ≤ i ∧ i < j))) S) : wp (fInR true (.int i) [.int j] S) Q X := wp_ok h
theorem wp_inRf {i j : Int} {S : Sto} {Q : IV → Sto → Prop} {X : Ex → Sto → Prop} (h : Q (.bl (decide (0 ≤ i ∧ i < j))) S) : wp (fInR false (.int i) [.int j] S) Q X := wp_ok h
theorem cnd_nonT {A B : Prop} (h : A) : cnd (isNon .non) A B := cnd_t h
theorem cnd_nonI {i : Int} {A B : Prop} (h : B) : cnd (isNon (.int i)) A B := cnd_f h
theorem cnd_nonU {i : List IV} {A B : Prop} (h : B) : cnd (isNon (.tup i)) A B := cnd_f h
theorem cnd_isBt {s t : BT} {A B : Prop} (e : isB s t = true) (h : A) : cnd (isB s t) A B := cnd_t' e h
theorem cnd_isBf {s t : BT} {A B : Prop} (e : isB s t = false) (h : B) : cnd (isB s t) A B := cnd_f' e h
/-- what holds between two parts of a text -/
def KF.mid (J : Env' → Sto → Prop) (K : KF) : KF := ⟨J, K.rt, K.bk, K.ct, K.ex⟩
section
variable {J : Env' → Sto → Prop} {K : KF} {E : Env'} {S : Sto}
theorem km_nx (h : J E S) : (KF.mid J K).nx E S := h
theorem km_rt {v : IV} (h : K.rt v S) : (KF.mid J K).rt v S := h
theorem km_bk (h : K.bk E S) : (KF.mid J K).bk E S := h
theorem km_ct (h : K.ct E S) : (KF.mid J K).ct E S := h
theorem km_ex {e : Ex} (h : K.ex e E S) : (KF.mid J K).ex e E S := h
theorem wf_mid {r : Fl} (J : Env' → Sto → Prop) (h : wf r (KF.mid J K)) (h2 : ∀ E S, J E S → K.nx E S) : wf r K := wf_mono h h2 (fun _ _ z => z) (fun _ _ z => z) (fun _ _ z => z) fun _ _ _ z => z
theorem cnd_mid {c : Bool} {r r' : Fl} (J : Env' → Sto → Prop) (h : cnd c (wf r (KF.mid J K)) (wf r' (KF.mid J K))) (h2 : ∀ E S, J E S → K.nx E S) : cnd c (wf r K) (wf r' K) :=
  ⟨fun e => wf_mid J (h.1 e) h2, fun e => wf_mid J (h.2 e) h2⟩
end
theorem At_mono {S : Sto} {n k k' : Nat} (h : Dice.At S n k) (hk : k ≤ k') : Dice.At S n k' := by
  obtain ⟨a, b, c, g, h1, h2, h3, h4, h5⟩ := h
  exact ⟨a, b, c, g, h1, h2, h3, h4, by omega⟩
/-- a call by flat arguments tells a flat value -/
theorem own_eq {f : MF} {as : List IV} {v : IV} (ha : flatRs as = true) (hv : flatR v = true) (h : wp (f as ⟨0, []⟩) (fun w _ => w = v) NoX) (S : Sto) : own f as S = .ok v S := by
  obtain ⟨S', e⟩ := wp_exv h
  exact own_flat ha e hv S
theorem flat_i1 (l : List Int) (v : IV) (hv : flatR v = true) : flatRs [.tup (l.map IV.int), v] = true := by
  show (flatRs (l.map IV.int) && (flatR v && true)) = true
  rw [flat_ints, hv]; rfl
theorem flat_tup (l : List Int) : flatR (.tup (l.map IV.int)) = true := flat_ints l
theorem wp_slL {n : Nat} {xs : List IV} {lo hi : Option Int} {S : Sto} {Q : IV → Sto → Prop} {X : Ex → Sto → Prop} (g : S.get n = some (.lst xs)) (h : Q (.ref S.top) (S.new (.lst (cutI xs lo hi)))) : wp (fSl (.ref n) lo hi S) Q X := by
  show wp (match S.get n with | some (.lst xs) => R.ok (IV.ref S.top) (S.new (.lst (cutI xs lo hi))) | _ => R.no) Q X
  rw [g]; exact wp_ok h
theorem fPut_at {S : Sto} {n j : Nat} {xs : List IV} {v : IV} (g : S.get n = some (.lst xs)) (hj : j < xs.length) : fPut (.ref n) (.int (j : Int)) v S = some (S.put n (.lst (xs.set j v))) := by
  have e : ixN xs.length (j : Int) = some j := by
    unfold ixN
    rw [if_pos (by omega), if_pos (by omega), Int.toNat_natCast]
  show (match S.get n with | some (.lst xs) => (match ixN xs.length (j : Int) with | some j => some (S.put n (.lst (xs.set j v))) | none => none) | _ => none) = _
  rw [g]
  show (match ixN xs.length (j : Int) with | some j => some (S.put n (.lst (xs.set j v))) | none => none) = _
  rw [e]
theorem At_put {S : Sto} {n m k : Nat} {o o' : IO} (h : Dice.At S n k) (g : S.get m = some o) (hm : m ≠ n) : Dice.At (S.put m o') n k := by
  obtain ⟨a, b, c, g0, r⟩ := h
  exact ⟨a, b, c, by rw [get_put_ne g (Ne.symm hm)]; exact g0, r⟩
section
variable {K : KF} {E : Env'} {S : Sto}
theorem wf_enumc {tg : Tg} {b : MS} {N n : Nat} {xs : List IV} (I : Nat → Env' → Sto → Prop) (hN : xs.length < N) (h0 : I 0 E S) (hg : ∀ i E S, I i E S → S.get n = some (.lst xs))
    (hs : ∀ i x E S, xs[i]? = some x → I i E S → ∃ E1, bindT tg (.tup [.int (i : Nat), x]) E = some E1 ∧ wf (b E1 S) (KF.loop (I (i + 1)) K))
    (he : ∀ E S, I xs.length E S → K.nx E S) : wf (mForGo tg b N (.enumc n 0) E S) K := by
  have main : ∀ (k N i : Nat) (E : Env') (S : Sto), xs.length - i = k → i ≤ xs.length → k < N → I i E S → wf (mForGo tg b N (.enumc n i) E S) K := by
    intro k
    induction k with
    | zero =>
      intro N i E S hk hi hN h
      cases N with
      | zero => cases hN
      | succ N =>
        have e : xs[i]? = none := List.getElem?_eq_none (by omega)
        unfold mForGo
        simp only [Wk.step, hg i E S h, e]
        exact wf_nx (he _ _ (by rw [show xs.length = i by omega]; exact h))
    | succ k ih =>
      intro N i E S hk hi hN h
      cases N with
      | zero => cases hN
      | succ N =>
        have hlt : i < xs.length := by omega
        have e : xs[i]? = some xs[i] := List.getElem?_eq_getElem hlt
        obtain ⟨E1, e1, w⟩ := hs i _ E S e h
        have key : ∀ E2 S2, I (i + 1) E2 S2 → wf (mForGo tg b N (.enumc n (i + 1)) E2 S2) K := fun E2 S2 h => ih N (i + 1) E2 S2 (by omega) (by omega) (by omega) h
        unfold mForGo
        simp only [Wk.step, hg i E S h, e, e1]
        unfold wf at w ⊢
        cases e : b E1 S <;> rw [e] at w
        · have := key _ _ w; unfold wf at this; exact this
        · exact w
        · exact w
        · have := key _ _ w; unfold wf at this; exact this
        · exact w
        · exact w
  exact main xs.length N 0 E S (by omega) (by omega) hN h0
theorem wp_enumC {n : Nat} {xs : List IV} {QW : Wk → Sto → Prop} {X : Ex → Sto → Prop} (g : S.get n = some (.lst xs)) (h : QW (.enumc n 0) S) : wp (fEnum [.ref n] S) QW X := by
  show wp (match S.get n with | some (.lst _) => R.ok (Wk.enumc n 0) S | _ => R.no) QW X
  rw [g]; exact wp_ok h
theorem wp_addL {n m : Nat} {xs ys : List IV} {Q : IV → Sto → Prop} {X : Ex → Sto → Prop} (g : S.get n = some (.lst xs)) (g' : S.get m = some (.lst ys)) (hl : xs.length + ys.length < 1000000) (h : Q (.ref S.top) (S.new (.lst (xs ++ ys)))) : wp (fAdd (.ref n) (.ref m) S) Q X := by
  rw [fAdd_lst g g' hl]; exact wp_ok h
end
end FX

set_option Elab.async false
set_option linter.all false
set_option maxRecDepth 100000
set_option maxHeartbeats 2000000
set_option autoImplicit false
/-! FW3: stars, zip, op= on items; rows trimmed -/
namespace FX
open PySem PySem.Spec PyProof.Rows L2
section
variable {E : Env'} {S : Sto} {Q : IV → Sto → Prop} {QA : List IV → Sto → Prop} {X : Ex → Sto → Prop} {K : KF}
theorem wp_bind' {α β : Type} {r : R α} {k : α → Sto → R β} {Q : β → Sto → Prop} (h : wp r (fun v S1 => wp (k v S1) Q X) X) : wp (r.bind k) Q X := wp_bind h
theorem wp_mStar {m : ME} {ms : MA} (h : wp (m E S) (fun v S1 => ∃ xs, itemsOf S1 v = some xs ∧ wp (ms E S1) (fun ys S2 => QA (xs ++ ys) S2) X) X) : wp (mStar m ms E S) QA X := by
  unfold mStar
  refine wp_bind (wp_mono h (fun v S1 ⟨xs, e, q⟩ => ?_) fun _ _ z => z)
  show wp (match itemsOf S1 v with | some xs => (ms E S1).bind fun ys S2 => R.ok (xs ++ ys) S2 | none => R.no) QA X
  rw [e]
  exact wp_bind (wp_mono q (fun ys S2 z => wp_ok z) fun _ _ z => z)
theorem items_ref {n : Nat} {xs : List IV} (g : S.get n = some (.lst xs)) : itemsOf S (.ref n) = some xs := by
  show (match S.get n with | some (.lst xs) => some xs | _ => none) = _
  rw [g]
theorem wp_mulL {n : Nat} {xs : List IV} {k : Int} (g : S.get n = some (.lst xs)) (e : repFit k xs.length = true) (h : Q (.ref S.top) (S.new (.lst (List.replicate k.toNat xs).flatten))) : wp (fMul (.ref n) (.int k) S) Q X := by
  show wp (match S.get n with | some (.lst xs) => (bif repFit k xs.length then R.ok (IV.ref S.top) (S.new (.lst (List.replicate k.toNat xs).flatten)) else R.no) | _ => R.no) Q X
  rw [g]
  show wp (bif repFit k xs.length then R.ok (IV.ref S.top) (S.new (.lst (List.replicate k.toNat xs).flatten)) else R.no) Q X
  rw [e]; exact wp_ok h
theorem repFit_of {k : Int} {n : Nat} (h1 : -1000 ≤ k) (h2 : k ≤ 1000) (hn : n ≤ 1000) : repFit k n = true := by
  unfold repFit
  rw [decide_eq_true (show -(2 ^ 63) ≤ k by omega), decide_eq_true (show k < 2 ^ 63 by omega)]
  have : n * k.toNat ≤ 1000 * 1000 := Nat.mul_le_mul hn (by omega)
  exact fullLen_of (by omega)
theorem wf_augS {o i m : ME} {f : MO} (h : wp (o E S) (fun a S1 => wp (i E S1) (fun b S2 => ∃ (n j : Nat) (xs : List IV) (x : IV), a = .ref n ∧ b = .int j ∧ S2.get n = some (.lst xs) ∧ xs[j]? = some x ∧
    wp (m E S2) (fun y S4 => wp (f x y S4) (fun z S5 => ∃ xs', S5.get n = some (.lst xs') ∧ j < xs'.length ∧ K.nx E (S5.put n (.lst (xs'.set j z)))) (fun e S1 => K.ex e E S1)) (fun e S1 => K.ex e E S1)) (fun e S1 => K.ex e E S1)) (fun e S1 => K.ex e E S1)) : wf (mAugS o i f m E S) K := by
  unfold mAugS
  refine wf_to (wp_mono h (fun a S1 z => wf_to (wp_mono z (fun b S2 z => ?_) fun _ _ z => z)) fun _ _ z => z)
  obtain ⟨n, j, xs, x, rfl, rfl, g, hx, q⟩ := z
  have e1 : fIx (.ref n) (.int (j : Int)) S2 = .ok x S2 := by
    show (match (match S2.get n with | some (.lst xs) => some xs | _ => none) with | some xs => (match atI xs (j : Int) with | some v => R.ok v S2 | none => R.no) | none => R.no) = _
    rw [g]
    show (match atI xs (j : Int) with | some v => R.ok v S2 | none => R.no) = _
    rw [FX.atI_nat hx]
  show wf ((fIx (.ref n) (.int (j : Int)) S2).to E fun x S3 => (m E S3).to E fun y S4 => (f x y S4).to E fun z S5 => (match fPut (.ref n) (.int (j : Int)) z S5 with | some S6 => .nx E S6 | none => .no)) K
  rw [e1]
  show wf ((m E S2).to E fun y S4 => (f x y S4).to E fun z S5 => (match fPut (.ref n) (.int (j : Int)) z S5 with | some S6 => .nx E S6 | none => .no)) K
  refine wf_to (wp_mono q (fun y S4 z => wf_to (wp_mono z (fun z S5 ⟨xs', g', hj, q'⟩ => ?_) fun _ _ z => z)) fun _ _ z => z)
  show wf (match fPut (.ref n) (.int (j : Int)) z S5 with | some S6 => .nx E S6 | none => .no) K
  rw [fPut_at g' hj]
  exact wf_nx q'
theorem wp_zipC {n m : Nat} {xs ys : List IV} {QW : Wk → Sto → Prop} (g : S.get n = some (.lst xs)) (g' : S.get m = some (.lst ys)) (h : QW (.zipc n m 0) S) : wp (fZip [.ref n, .ref m] S) QW X := by
  show wp (match S.get n, S.get m with | some (.lst _), some (.lst _) => R.ok (Wk.zipc n m 0) S | _, _ => R.no) QW X
  rw [g, g']; exact wp_ok h
theorem wp_zipT {xs ys : List IV} {QW : Wk → Sto → Prop} (h : QW (.items (zipI xs ys)) S) : wp (fZip [.tup xs, .tup ys] S) QW X := wp_ok h
theorem wp_lcZip {tg : Tg} {t : MT} {e : ME} {QL : List IV → Sto → Prop} {N n m : Nat} {xs ys : List IV} (hl : xs.length = ys.length) (I : Nat → List IV → Sto → Prop) (hN : xs.length < N) (h0 : I 0 [] S) (hg : ∀ i a S, I i a S → S.get n = some (.lst xs) ∧ S.get m = some (.lst ys))
    (hs : ∀ i x y a S, xs[i]? = some x → ys[i]? = some y → I i a S → LcStep tg t e E S (.tup [x, y]) fun z S2 => I (i + 1) (a ++ z) S2)
    (he : ∀ a S, I xs.length a S → QL a S) : wp (mLcGo tg t e N (.zipc n m 0) [] E S) QL X := by
  have main : ∀ (k N i : Nat) (acc : List IV) (S : Sto), xs.length - i = k → i ≤ xs.length → k < N → I i acc.reverse S → wp (mLcGo tg t e N (.zipc n m i) acc E S) QL X := by
    intro k
    induction k with
    | zero =>
      intro N i acc S hk hi hN h
      cases N with
      | zero => cases hN
      | succ N =>
        have e0 : xs[i]? = none := List.getElem?_eq_none (by omega)
        unfold mLcGo
        simp only [Wk.step, (hg i _ S h).1, (hg i _ S h).2, e0]
        exact wp_ok (he _ _ (by rw [show xs.length = i by omega]; exact h))
    | succ k ih =>
      intro N i acc S hk hi hN h
      cases N with
      | zero => cases hN
      | succ N =>
        have hlt : i < xs.length := by omega
        have e0 : xs[i]? = some xs[i] := List.getElem?_eq_getElem hlt
        have f0 : ys[i]? = some (ys[i]'(by omega)) := List.getElem?_eq_getElem (by omega)
        obtain ⟨E1, e1, w⟩ := hs i _ _ _ S e0 f0 h
        obtain ⟨c, S1, ec, q⟩ := wp_ex w
        unfold mLcGo
        simp only [Wk.step, (hg i _ S h).1, (hg i _ S h).2, e0, f0, e1, ec]
        cases c with
        | true =>
          obtain ⟨y, S2, ey, q2⟩ := wp_ex (q.1 rfl)
          simp only [ey]
          exact ih N (i + 1) (y :: acc) S2 (by omega) (by omega) (by omega) (by rw [List.reverse_cons]; exact q2)
        | false =>
          have q2 : I (i + 1) (acc.reverse ++ []) S1 := q.2 rfl
          rw [List.append_nil] at q2
          exact ih N (i + 1) acc S1 (by omega) (by omega) (by omega) q2
  exact main xs.length N 0 [] S (by omega) (by omega) hN h0
theorem wp_addT {xs ys : List IV} (e : xs.length + ys.length < 1000000) (h : Q (.tup (xs ++ ys)) S) : wp (fAdd (.tup xs) (.tup ys) S) Q X := by
  show wp (bif fullLen (xs.length + ys.length) then R.ok (IV.tup (xs ++ ys)) S else R.no) Q X
  rw [fullLen_of (by omega)]
  exact wp_ok h
end
end FX

set_option Elab.async false
set_option linter.all false
set_option maxRecDepth 100000
set_option maxHeartbeats 2000000
set_option autoImplicit false
/-! FW4: walk rules of dicts, `*=` -/
namespace FX
open PySem PySem.Spec PyProof.Rows L2
section
variable {E : Env'} {S : Sto} {Q : IV → Sto → Prop} {QA : List IV → Sto → Prop} {X : Ex → Sto → Prop} {K : KF}
theorem wp_dnew (h : Q (.ref S.top) (S.new (.dct []))) : wp (mDNew E S) Q X := wp_ok h
theorem isDct_of {n : Nat} {kvs : List (L2.Key × IV)} (g : S.get n = some (.dct kvs)) : isDct S (.ref n) = true := by
  show (match S.get n with | some (.dct _) => true | _ => false) = true
  rw [g]
theorem wp_dget2 {md mk mx : ME} (h : wp (md E S) (fun a S1 => ∃ (n : Nat) (kvs0 : List (L2.Key × IV)), a = .ref n ∧ S1.get n = some (.dct kvs0) ∧ wp (mk E S1) (fun y S2 => wp (mx E S2) (fun z S3 => ∃ (kvs : List (L2.Key × IV)) (k : L2.Key), keyI y = some k ∧ S3.get n = some (.dct kvs) ∧ Q ((valI kvs k).getD z) S3) X) X) X) : wp (mDGet2 md mk mx E S) Q X := by
  unfold mDGet2
  refine wp_bind (wp_mono h (fun a S1 ⟨n, kvs0, e, g, q⟩ => ?_) fun _ _ z => z)
  subst e
  show wp (bif isDct S1 (.ref n) then ((mk E S1).bind fun y S2 => (mx E S2).bind fun z S3 => fDGet2 (.ref n) y z S3) else R.no) Q X
  rw [isDct_of g]
  refine wp_bind (wp_mono q (fun y S2 q => wp_bind (wp_mono q (fun z S3 ⟨kvs, k, e, g3, q⟩ => ?_) fun _ _ z => z)) fun _ _ z => z)
  unfold fDGet2
  rw [e]
  show wp (match S3.get n with | some (.dct kvs) => R.ok ((valI kvs k).getD z) S3 | _ => R.no) Q X
  rw [g3]
  exact wp_ok q
theorem wp_din {n : Nat} {kvs : List (L2.Key × IV)} {k : L2.Key} {y : IV} (g : S.get n = some (.dct kvs)) (e : keyI y = some k) (h : Q (.bl (valI kvs k).isSome) S) : wp (fDIn y (.ref n) S) Q X := by
  unfold fDIn
  rw [e]
  show wp (match S.get n with | some (.dct kvs) => R.ok (.bl (valI kvs k).isSome) S | _ => R.no) Q X
  rw [g]
  exact wp_ok h
theorem wp_dix {n : Nat} {kvs : List (L2.Key × IV)} {k : L2.Key} {y v : IV} (g : S.get n = some (.dct kvs)) (e : keyI y = some k) (ev : valI kvs k = some v) (h : Q v S) : wp (fDIx (.ref n) y S) Q X := by
  unfold fDIx
  rw [e]
  show wp (match S.get n with | some (.dct kvs) => (match valI kvs k with | some v => R.ok v S | none => R.no) | _ => R.no) Q X
  rw [g]
  show wp (match valI kvs k with | some v => R.ok v S | none => R.no) Q X
  rw [ev]
  exact wp_ok h
theorem wf_dput {md mk m : ME} (h : wp (m E S) (fun v S1 => wp (md E S1) (fun a S2 => wp (mk E S2) (fun y S3 => ∃ (n : Nat) (kvs : List (L2.Key × IV)) (k : L2.Key), a = .ref n ∧ keyI y = some k ∧ S3.get n = some (.dct kvs) ∧ kvs.length < 16777216 ∧ K.nx E (S3.put n (.dct (putI kvs k v))))
    (fun e S1 => K.ex e E S1)) (fun e S1 => K.ex e E S1)) (fun e S1 => K.ex e E S1)) : wf (mDPut md mk m E S) K := by
  unfold mDPut
  refine wf_to (wp_mono h (fun v S1 z => wf_to (wp_mono z (fun a S2 z => wf_to (wp_mono z (fun y S3 z => ?_) fun _ _ z => z)) fun _ _ z => z)) fun _ _ z => z)
  obtain ⟨n, kvs, k, rfl, e, g, hl, q⟩ := z
  have e4 : fDPut (.ref n) y v S3 = some (S3.put n (.dct (putI kvs k v))) := by
    unfold fDPut
    rw [e]
    show (match S3.get n with | some (.dct kvs) => bif Nat.blt kvs.length 16777216 then some (S3.put n (.dct (putI kvs k v))) else none | _ => none) = _
    rw [g]
    show (bif Nat.blt kvs.length 16777216 then some (S3.put n (.dct (putI kvs k v))) else none) = _
    rw [show Nat.blt kvs.length 16777216 = true from Nat.ble_eq.mpr hl]
    rfl
  show wf (match fDPut (.ref n) y v S3 with | some S4 => .nx E S4 | none => .no) K
  rw [e4]
  exact wf_nx q
theorem wp_mulI {i j : Int} (e : mulFit i j = true) (h : Q (.int (i * j)) S) : wp (fMulI (.int i) (.int j) S) Q X := by
  show wp (okI (mulFit i j) (i * j) S) Q X
  rw [e]
  exact wp_ok h
theorem putI_len (kvs : List (L2.Key × IV)) (k : L2.Key) (v : IV) : (putI kvs k v).length ≤ kvs.length + 1 := by
  unfold putI
  split
  · rw [List.length_map]; omega
  · rw [List.length_append]; exact Nat.le_refl _
theorem valI_put (kvs : List (L2.Key × IV)) (k : L2.Key) (v : IV) (k' : L2.Key) : valI (putI kvs k v) k' = if k' = k then some v else valI kvs k' := by
  unfold putI
  by_cases hk : (kvs.any fun kv => decide (kv.1 = k)) = true
  · rw [if_pos hk]
    induction kvs with
    | nil => cases hk
    | cons p r ih =>
      obtain ⟨k1, v1⟩ := p
      by_cases h1 : k1 = k
      · subst h1
        by_cases h2 : k' = k1
        · subst h2
          simp [valI, List.find?_cons]
        · have h3 : ¬ k1 = k' := fun z => h2 z.symm
          rw [if_neg h2]
          have hm : ∀ r : List (L2.Key × IV), valI (r.map fun kv => if kv.1 = k1 then (kv.1, v) else kv) k' = valI r k' := by
            intro r
            induction r with
            | nil => rfl
            | cons q t iht =>
              obtain ⟨k2, v2⟩ := q
              by_cases h4 : k2 = k1
              · subst h4
                simp only [valI, List.map_cons, if_true, List.find?_cons, decide_eq_false h3] at *
                exact iht
              · by_cases h5 : k2 = k'
                · simp [valI, List.find?_cons, h4, h5]
                  simp [show ¬ k' = k1 from h2]
                · simp only [valI, List.map_cons, if_neg h4, List.find?_cons, decide_eq_false h5] at *
                  exact iht
          exact hm _
      · have hr : (r.any fun kv => decide (kv.1 = k)) = true := by
          rw [List.any_cons, decide_eq_false h1, Bool.false_or] at hk
          exact hk
        have := ih hr
        by_cases h2 : k1 = k'
        · subst h2
          simp [valI, List.find?_cons, h1]
        · simp only [valI, List.map_cons, if_neg h1, List.find?_cons, decide_eq_false h2] at *
          exact this
  · rw [if_neg hk]
    by_cases h2 : k' = k
    · subst h2
      rw [if_pos rfl]
      have : (kvs.find? fun kv => decide (kv.1 = k')) = none := by
        rw [List.find?_eq_none]
        intro x hx hd
        exact hk (List.any_eq_true.mpr ⟨x, hx, hd⟩)
      unfold valI
      rw [List.find?_append, this]
      simp
    · rw [if_neg h2]
      unfold valI
      rw [List.find?_append]
      have : ([(k, v)] : List (L2.Key × IV)).find? (fun kv => decide (kv.1 = k')) = none := by
        rw [List.find?_cons, show decide (k = k') = false from decide_eq_false fun z => h2 z.symm]
        rfl
      rw [this, Option.or_none]
end
end FX

set_option Elab.async false
set_option linter.all false
set_option maxRecDepth 100000
set_option maxHeartbeats 2000000
set_option autoImplicit false
/-! FW5: walk rules of sorted, sets, extend; a call that returns a new list of ints -/
namespace FX
open PySem PySem.Spec PyProof.Rows L2
section
variable {E : Env'} {S : Sto} {Q : IV → Sto → Prop} {X : Ex → Sto → Prop} {K : KF}
theorem cellInts_ref {n : Nat} {l : List Int} (g : S.get n = some (.lst (l.map IV.int))) : cellInts S (.ref n) = some l := by
  show (match S.get n with | some (.lst xs) => intsOf xs | _ => none) = _
  rw [g]
  exact intsOf_map l
theorem wp_sortSet {n : Nat} {l : List Int} (g : S.get n = some (.lst (l.map IV.int))) (h1 : (setI l).length ≤ 60) (h2 : l.length ≤ 1000) (h : Q (.ref S.top) (S.new (.lst ((setI l).map IV.int)))) : wp (fSortSet (.ref n) S) Q X := by
  unfold fSortSet
  rw [cellInts_ref g]
  show wp (bif Nat.ble (setI l).length 60 then (bif Nat.ble l.length 1000 then .ok (.ref S.top) (S.new (.lst ((setI l).map IV.int))) else .no) else .no) Q X
  rw [Nat.ble_eq.mpr h1, Nat.ble_eq.mpr h2]
  exact wp_ok h
theorem wp_lenSet {n : Nat} {l : List Int} (g : S.get n = some (.lst (l.map IV.int))) (h2 : l.length ≤ 1000) (h : Q (.int (setI l).length) S) : wp (fLenSet (.ref n) S) Q X := by
  unfold fLenSet
  rw [cellInts_ref g]
  show wp (bif Nat.ble l.length 1000 then .ok (.int (setI l).length) S else .no) Q X
  rw [Nat.ble_eq.mpr h2]
  exact wp_ok h
theorem wp_sorted {n : Nat} {l : List Int} (g : S.get n = some (.lst (l.map IV.int))) (h : Q (.ref S.top) (S.new (.lst ((sortI l).map IV.int)))) : wp (bSorted [.ref n] S) Q X := by
  show wp (match cellInts S (.ref n) with | some ns => .ok (.ref S.top) (S.new (.lst ((sortI ns).map IV.int))) | none => .no) Q X
  rw [cellInts_ref g]
  exact wp_ok h
theorem wp_extend {n m : Nat} {xs ys : List IV} (g : S.get n = some (.lst xs)) (g' : S.get m = some (.lst ys)) (e : xs.length + ys.length ≤ 16777216) (h : Q .non (S.put n (.lst (xs ++ ys)))) : wp (fExtend (.ref n) [.ref m] S) Q X := by
  unfold fExtend
  dsimp only
  rw [g, g']
  show wp (bif Nat.ble (xs.length + ys.length) 16777216 then R.ok IV.non (S.put n (.lst (xs ++ ys))) else R.no) Q X
  rw [Nat.ble_eq.mpr e]
  exact wp_ok h
theorem wp_ownI {f : MF} {as : List IV} (ha : flatRs as = true) (p : List Int → Prop) (h : wp (f as ⟨0, []⟩) (fun v S' => ∃ (n : Nat) (l : List Int), v = .ref n ∧ S'.cells.length = S'.top ∧ S'.get n = some (.lst (l.map IV.int)) ∧ p l) NoX)
    (q : ∀ (n : Nat) (S' : Sto) (l : List Int), p l → S.top ≤ n → S'.get n = some (.lst (l.map IV.int)) → Keep S S' → (S.cells.length = S.top → S'.cells.length = S'.top) → Q (.ref n) S') : wp (own f as S) Q X := by
  obtain ⟨v, S0, e, n, l, rfl, h0, g, hp⟩ := wp_ex h
  refine wp_eq (own_ref ha e S) (q _ _ l hp (Nat.le_add_right _ _) ?_ (fun i o g' => ?_) fun hc => ?_)
  · rw [get_app_new h0 n (get_lt g), g]
    show some (IO.lst (shifts _ (l.map IV.int))) = _
    rw [shifts_ints]
  · rw [get_app h0 i (get_lt g')]
    exact g'
  · show (S0.cells.map _ ++ S.cells).length = S.top + S0.top
    rw [List.length_append, List.length_map, h0, hc, Nat.add_comm]
end
theorem dedI_len : ∀ l : List Int, (dedI l).length ≤ l.length
  | [] => Nat.le_refl _
  | [_] => Nat.le_refl _
  | x :: y :: r => by
    have := dedI_len (y :: r)
    unfold dedI
    split
    · rw [List.length_cons]; omega
    · rw [List.length_cons, List.length_cons]; omega
theorem setI_len (l : List Int) : (setI l).length ≤ l.length := by
  have := dedI_len (sortI l)
  rw [(sortI_perm l).length_eq] at this
  exact this
end FX

set_option Elab.async false
set_option linter.all false
set_option maxRecDepth 100000
set_option maxHeartbeats 2000000
set_option autoImplicit false
/-! FW6: walk rules of next over a generator expression, of a list's items into names -/
namespace FX
open PySem PySem.Spec PyProof.Rows L2
section
variable {E : Env'} {S : Sto} {Q : IV → Sto → Prop} {X : Ex → Sto → Prop} {K : KF}
/-- what a generator expression does with one item -/
def NxStep (tg : Tg) (t : MT) (e : ME) (E : Env') (S : Sto) (x : IV) (Q : IV → Sto → Prop) (J : Sto → Prop) : Prop :=
  ∃ E1, bindT tg x E = some E1 ∧ wp (t E1 S) (fun c S1 => cnd c (wp (e E1 S1) Q NoX) (J S1)) NoX
theorem wp_nxGo {tg : Tg} {t : MT} {e : ME} {N : Nat} {xs : List IV} (I : Nat → Sto → Prop) (hN : xs.length < N) (h0 : I 0 S)
    (hs : ∀ i x S, xs[i]? = some x → I i S → NxStep tg t e E S x Q (I (i + 1))) (he : ∀ S, I xs.length S → Q .non S) : wp (mNxGo tg t e N (.items xs) E S) Q X := by
  induction xs generalizing N I S with
  | nil =>
    cases N with
    | zero => cases hN
    | succ N => exact wp_ok (he _ h0)
  | cons x r ih =>
    cases N with
    | zero => cases hN
    | succ N =>
      obtain ⟨E1, e1, w⟩ := hs 0 x S rfl h0
      obtain ⟨c, S1, ec, q⟩ := wp_ex w
      unfold mNxGo
      simp only [Wk.step, e1, ec]
      cases c with
      | true =>
        obtain ⟨y, S2, ey, q2⟩ := wp_ex (q.1 rfl)
        simp only [ey]
        exact wp_ok q2
      | false =>
        exact ih (fun i => I (i + 1)) (Nat.lt_of_succ_lt_succ hN) (q.2 rfl) (fun i x S hx hi => hs (i + 1) x S hx hi) he
theorem wp_mNx {n : Nat} {mi : MI} {tg : Tg} {t : MT} {e : ME} {vs : List Nat} (h : wp (mi E S) (fun k S1 => wp (mNxGo tg t e n k (wipeE E vs) S1) Q X) X) : wp (mNx n mi tg t e vs E S) Q X := wp_bind h
theorem wf_unp {bs : List Tg} {m : ME} (h : wp (m E S) (fun v S1 => ∃ (n : Nat) (vs : List IV) (E' : Env'), v = .ref n ∧ S1.get n = some (.lst vs) ∧ bindTs bs vs E = some E' ∧ K.nx E' S1) (fun e S1 => K.ex e E S1)) : wf (mUnp bs m E S) K := by
  unfold mUnp
  refine wf_to (wp_mono h (fun v S1 z => ?_) fun _ _ z => z)
  obtain ⟨n, vs, E', rfl, g, e, q⟩ := z
  dsimp only
  rw [g]
  dsimp only
  rw [e]
  exact wf_nx q
/-- one value or another -/
theorem cnd_vals {c : Bool} {r1 r2 : R IV} (v : IV) (S : Sto) (h1 : c = true → r1 = .ok v S) (h2 : c = false → r2 = .ok v S) (h : Q v S) : cnd c (wp r1 Q X) (wp r2 Q X) :=
  ⟨fun e => by rw [h1 e]; exact wp_ok h, fun e => by rw [h2 e]; exact wp_ok h⟩
theorem wp_divN {i j : Int} (e : j < 0) (e2 : j.natAbs < 1073741824) (h : Q (.int (i.fdiv j)) S) : wp (fDiv (.int i) (.int j) S) Q X := by
  have h1 : divFit j = false := by
    unfold divFit
    rw [decide_eq_false (by omega), Bool.false_and]
  have h2 : divFitN j = true := by
    unfold divFitN
    rw [decide_eq_true e]
    exact Nat.ble_eq.mpr e2
  show wp (bif divFit j then .ok (.int (i / j)) S else okI (divFitN j) (i.fdiv j) S) Q X
  rw [h1, h2]
  exact wp_ok h
theorem fdiv_exact {j c : Int} (h : j ≠ 0) : (j * c).fdiv j = c := Int.mul_fdiv_cancel_left c h
/-- a division that comes out even -/
theorem wp_divE {i j c : Int} (h0 : j ≠ 0) (h1 : j.natAbs < 1073741824) (e : i = j * c) (h : Q (.int c) S) : wp (fDiv (.int i) (.int j) S) Q X := by
  rcases Int.lt_or_lt_of_ne h0 with z | z
  · refine wp_divN z h1 ?_
    rw [e, fdiv_exact h0]; exact h
  · refine wp_div (Ar.divFit_of (a := 30) z (by omega) (by decide)) ?_
    rw [e, Int.mul_ediv_cancel_left _ h0]; exact h
theorem wp_anyI {xs : List IV} {l : List Int} (e : intsT xs = some l) (h : Q (.bl (l.any (· != 0))) S) : wp (bAnyI [.tup xs] S) Q X := by
  unfold bAnyI
  dsimp only
  rw [e]
  exact wp_ok h
end
end FX

set_option Elab.async false
set_option linter.all false
set_option maxRecDepth 100000
set_option maxHeartbeats 2000000
set_option autoImplicit false
/-! FW7: next over a generator expression that walks a list -/
namespace FX
open PySem PySem.Spec PyProof.Rows L2
section
variable {E : Env'} {S : Sto} {Q : IV → Sto → Prop} {X : Ex → Sto → Prop} {K : KF}
theorem wp_nxCell {tg : Tg} {t : MT} {e : ME} {N n : Nat} {xs : List IV} (I : Nat → Sto → Prop) (hN : xs.length < N) (h0 : I 0 S) (hg : ∀ i S, I i S → S.get n = some (.lst xs))
    (hs : ∀ i x S, xs[i]? = some x → I i S → NxStep tg t e E S x Q (I (i + 1))) (he : ∀ S, I xs.length S → Q .non S) : wp (mNxGo tg t e N (.cell n 0) E S) Q X := by
  have main : ∀ (k N i : Nat) (S : Sto), xs.length - i = k → i ≤ xs.length → k < N → I i S → wp (mNxGo tg t e N (.cell n i) E S) Q X := by
    intro k
    induction k with
    | zero =>
      intro N i S hk hi hN h
      cases N with
      | zero => cases hN
      | succ N =>
        have e : xs[i]? = none := List.getElem?_eq_none (by omega)
        unfold mNxGo
        simp only [Wk.step, hg i S h, e]
        exact wp_ok (he _ (by rw [show xs.length = i by omega]; exact h))
    | succ k ih =>
      intro N i S hk hi hN h
      cases N with
      | zero => cases hN
      | succ N =>
        have hlt : i < xs.length := by omega
        have e0 : xs[i]? = some xs[i] := List.getElem?_eq_getElem hlt
        obtain ⟨E1, e1, w⟩ := hs i _ S e0 h
        obtain ⟨c, S1, ec, q⟩ := wp_ex w
        unfold mNxGo
        simp only [Wk.step, hg i S h, e0, e1, ec]
        cases c with
        | true =>
          obtain ⟨y, S2, ey, q2⟩ := wp_ex (q.1 rfl)
          simp only [ey]
          exact wp_ok q2
        | false =>
          exact ih N (i + 1) S1 (by omega) (by omega) (by omega) (q.2 rfl)
  exact main xs.length N 0 S (by omega) (by omega) hN h0
end
end FX

set_option Elab.async false
set_option linter.all false
set_option maxRecDepth 100000
set_option maxHeartbeats 2000000
set_option autoImplicit false
set_option pp.maxSteps 900
/-! FP24: powers of integers of any sign; exponents of powers -/
namespace FX
open PySem PySem.Spec PyProof.Rows L2
namespace Ar
local macro_rules | `(tactic| sizeOf_list_dec) => `(tactic| first | exact SetL.zero | (apply SetL.succ; sizeOf_list_dec) | (apply BindL.name; sizeOf_list_dec) | (apply BindL.tup; sizeOf_list_dec) | exact BindLs.nil | (apply BindLs.cons <;> sizeOf_list_dec))
local macro_rules | `(tactic| array_get_dec) => `(tactic| first
  | with_reducible refine wp_mB ?_
  | ((with_reducible apply wp_mV); rfl)
  | with_reducible refine wp_mC ?_
  | with_reducible refine wf_seq ?_
  | with_reducible refine wf_set ?_
  | ((with_reducible apply ex_set); sizeOf_list_dec)
  | ((with_reducible apply ex_bind); sizeOf_list_dec)
  | ((with_reducible apply ex_bindT); sizeOf_list_dec)
  | with_reducible refine kt_nx ?_
  | with_reducible refine wp_mCons ?_
  | with_reducible refine wp_mNil ?_
  | with_reducible refine wp_mCallO ?_
  | with_reducible refine wp_mCall ?_
  | with_reducible refine wp_add ?_
  | with_reducible refine wp_sub ?_
  | with_reducible refine wp_cmp ?_
  | with_reducible refine wp_eqI ?_
  | with_reducible refine wp_neI ?_
  | with_reducible refine ⟨_, rfl, ?_⟩
  | with_reducible refine cnd_t ?_
  | with_reducible refine cnd_f ?_
  | with_reducible refine cnd_not ?_
  | with_reducible refine cnd_nonT ?_
  | with_reducible refine cnd_nonI ?_
  | with_reducible refine cnd_nonU ?_
  | ((with_reducible apply cnd_isBt); rfl)
  | ((with_reducible apply cnd_isBf); rfl)
  | with_reducible refine wp_mTB ?_
  | with_reducible refine wf_if ?_
  | with_reducible refine wf_ret ?_
  | with_reducible refine kt_rt ?_
  | with_reducible refine kf_rt ?_
  | with_reducible refine kf_nx ?_
  | with_reducible refine kl_nx ?_
  | with_reducible refine kl_rt ?_
  | with_reducible refine wf_drop ?_
  | with_reducible refine wf_skip ?_
  | with_reducible refine wf_asg ?_
  | with_reducible refine wp_mTup ?_
  | with_reducible refine wp_mLst ?_
  | ((with_reducible refine ⟨?_, ?_⟩); exact fullLen_of (by simp only [List.length_cons, List.length_nil]; decide))
  | ((with_reducible refine wp_mul ?_ ?_); first | assumption | rfl)
  | ((with_reducible refine wp_div ?_ ?_); first | assumption | rfl)
  | ((with_reducible refine wp_divS ?_ ?_ ?_); first | assumption | omega; first | assumption | omega)
  | ((with_reducible refine wp_mod ?_ ?_); first | assumption | omega)
  | with_reducible refine wp_neg ?_
  | with_reducible refine wp_notV ?_
  | with_reducible refine wp_mU ?_
  | ((with_reducible refine wp_pow ?_ ?_); first | assumption | rfl)
  | (with_reducible refine wf_par ?_)
  | (with_reducible refine wf_par3 ?_)
  | ((with_reducible apply ex_par); sizeOf_list_dec; sizeOf_list_dec)
  | ((with_reducible apply ex_par3); sizeOf_list_dec; sizeOf_list_dec; sizeOf_list_dec)
  | ((with_reducible apply wf_aug); rfl)
  | with_reducible refine wp_addI ?_
  | with_reducible refine wp_mTru ?_
  | with_reducible refine wp_mAndT ?_
  | with_reducible refine wp_mOrT ?_
  | with_reducible refine wp_mNotT ?_
  | with_reducible refine wp_mYes ?_
  | with_reducible refine wp_mAndV ?_
  | with_reducible refine wp_mOrV ?_
  | with_reducible refine wp_mIf ?_
  | with_reducible refine wp_mChain ?_
  | with_reducible refine wp_mInR ?_
  | with_reducible refine wp_inRt ?_
  | with_reducible refine wp_inRf ?_
  | with_reducible refine wp_isN ?_
  | with_reducible refine wp_notN ?_
  | ((with_reducible apply wp_ixT); rfl)
  | ((with_reducible apply wp_ixL); assumption; rfl)
  | with_reducible refine wp_lenT ?_
  | with_reducible refine wp_lenF ?_
  | ((with_reducible apply wp_lenL); assumption)
  | with_reducible refine wp_abs ?_
  | with_reducible refine wp_int ?_
  | with_reducible refine wp_intB ?_
  | with_reducible refine wp_max ?_
  | with_reducible refine wp_min ?_
  | with_reducible refine wp_gcd ?_
  | with_reducible refine wp_tupT ?_
  | ((with_reducible apply wp_tupL); assumption)
  | with_reducible refine wp_listT ?_
  | ((with_reducible apply wp_isI); rfl; rfl)
  | with_reducible refine wp_mMet ?_
  | with_reducible refine wp_mSl ?_
  | with_reducible refine wp_mP ?_
  | with_reducible refine wp_mNoP ?_
  | with_reducible refine wp_slT ?_
  | with_reducible refine wp_revT ?_
  | with_reducible refine wf_for ?_
  | with_reducible refine wp_mWk ?_
  | with_reducible refine wp_seqT ?_
  | with_reducible refine wp_enumT ?_
  | with_reducible refine wp_lc ?_
  | with_reducible refine wf_brk ?_
  | with_reducible refine wf_cont ?_
  | with_reducible refine wf_retN ?_
  | with_reducible refine kl_ct ?_
  | with_reducible refine kl_bk ?_
  | with_reducible refine kt_bk ?_
  | with_reducible refine kt_ct ?_
  | with_reducible refine kt_ex ?_
  | with_reducible refine kl_ex ?_
  | with_reducible refine kf_ex ?_
  | with_reducible refine km_nx ?_
  | with_reducible refine km_rt ?_
  | ((with_reducible refine wp_mulI ?_ ?_); first | assumption | rfl)
  | with_reducible refine wp_dnew ?_)
theorem ipow_lt {x : Int} {K : Nat} (hx : x.natAbs < 2 ^ K) : ∀ c, (x ^ c).natAbs < 2 ^ (K * c + 1)
  | 0 => by rw [Int.pow_zero, Nat.mul_zero]; decide
  | c + 1 => by
    have h := ipow_lt hx c
    rw [Int.pow_succ, Int.natAbs_mul, show K * (c + 1) + 1 = (K * c + 1) + K by rw [Nat.mul_add]; omega, Nat.pow_add]
    rcases Nat.eq_zero_or_pos x.natAbs with z | z
    · rw [z, Nat.mul_zero]; exact Nat.mul_pos (Nat.two_pow_pos _) (Nat.two_pow_pos _)
    · exact Nat.lt_of_lt_of_le (Nat.mul_lt_mul_of_pos_right h z) (Nat.mul_le_mul_left _ (Nat.le_of_lt hx))
theorem up_lt {a m n : Nat} (h : a < 2 ^ m) (hn : m ≤ n) : a < 2 ^ n := Nat.lt_of_lt_of_le h (Nat.pow_le_pow_right (by decide) hn)
theorem ipowI {x : Int} {n K : Nat} (hx : x.natAbs < 2 ^ K) (hK : K ≤ 3000) (hn : n ≤ 12) (S : Sto) : own m_power_of [.int x, .int n] S = .ok (.int (x ^ n)) S := by
  refine own_eq rfl rfl ?_ S
  refine wp_def [some (.int x), some (.int n), none, none, none] rfl ?_
  unfold b_power_of
  repeat array_get_dec
  refine wf_while (fun k E S => ∃ c d l : Nat, c + d * l = n ∧ d ≤ 12 ∧ l ≤ k ∧ S = ⟨0, []⟩ ∧ E = [some (.int x), some (.int n), some (.int (x ^ c)), some (.int (x ^ d)), some (.int l)]) n (by omega) ⟨0, 1, n, by omega, by decide, Nat.le_refl _, rfl, ?_⟩ ?_
  · rw [Int.pow_zero, Int.pow_succ, Int.pow_zero, Int.one_mul]
  · rintro k E S ⟨c, d, l, h1, h2, h3, rfl, rfl⟩
    have hc : K * c ≤ 3000 * 12 := Nat.mul_le_mul hK (by omega)
    have hd : K * d ≤ 3000 * 12 := Nat.mul_le_mul hK h2
    have bc := up_lt (ipow_lt hx c) (show K * c + 1 ≤ 40000 by omega)
    have bd := up_lt (ipow_lt hx d) (show K * d + 1 ≤ 40000 by omega)
    have M1 : mulFit (x ^ c) (x ^ d) = true := mulFit_of bc bd (by decide)
    have M2 : mulFit (x ^ d) (x ^ d) = true := mulFit_of bd bd (by decide)
    repeat array_get_dec
    refine cnd_dec (fun z => ?_) fun z => ?_
    · have e1 : (l : Int) / 2 = ((l / 2 : Nat) : Int) := by omega
      have D : divFit 2 = true := by decide
      have hmul : d * (2 * (l / 2)) ≤ d * l := Nat.mul_le_mul_left _ (by omega)
      repeat array_get_dec
      refine cnd_dec (fun z1 => ?_) fun z1 => ?_
      · have hodd : c + d + d * (2 * (l / 2)) = n := by
          have e2 : d * l = d * (2 * (l / 2) + 1) := by congr 1; omega
          rw [e2, Nat.mul_add, Nat.mul_one] at h1
          omega
        repeat array_get_dec
        rw [e1, ← Int.pow_add]
        refine cnd_dec (fun z2 => ?_) fun z2 => ?_
        · have h4 : d * 2 ≤ d * (2 * (l / 2)) := Nat.mul_le_mul_left _ (by omega)
          repeat array_get_dec
          rw [← Int.pow_add]
          exact ⟨l / 2, by omega, c + d, d + d, l / 2, by rw [← hodd, ← Nat.mul_two d, Nat.mul_assoc], by omega, Nat.le_refl _, rfl, rfl⟩
        · have h5 : l / 2 = 0 := by omega
          repeat array_get_dec
          exact ⟨l / 2, by omega, c + d, d, l / 2, by rw [← hodd, h5], h2, Nat.le_refl _, rfl, rfl⟩
      · have heven : c + d * (2 * (l / 2)) = n := by
          have e2 : d * l = d * (2 * (l / 2)) := by congr 1; omega
          omega
        repeat array_get_dec
        rw [e1]
        refine cnd_dec (fun z2 => ?_) fun z2 => ?_
        · have h4 : d * 2 ≤ d * (2 * (l / 2)) := Nat.mul_le_mul_left _ (by omega)
          repeat array_get_dec
          rw [← Int.pow_add]
          exact ⟨l / 2, by omega, c, d + d, l / 2, by rw [← heven, ← Nat.mul_two d, Nat.mul_assoc], by omega, Nat.le_refl _, rfl, rfl⟩
        · have h5 : l / 2 = 0 := by omega
          repeat array_get_dec
          exact ⟨l / 2, by omega, c, d, l / 2, by rw [← heven, h5], h2, Nat.le_refl _, rfl, rfl⟩
    · obtain rfl : l = 0 := by omega
      repeat array_get_dec
      rw [Nat.mul_zero, Nat.add_zero] at h1
      rw [h1]
theorem lpowI {x : Int} {n K : Nat} (hx : x.natAbs < 2 ^ K) (hK : K ≤ 3000) (hn : n ≤ 12) (S : Sto) : own m__law_power [.int x, .int n] S = .ok (.int (x ^ n)) S := by
  refine own_eq rfl rfl ?_ S
  refine wp_def [some (.int x), some (.int n), none, none] rfl ?_
  unfold b__law_power
  repeat array_get_dec
  refine wp_range1 (in62_of (by omega) (by omega)) ?_
  refine wf_items (fun i E S => S = ⟨0, []⟩ ∧ ∃ y, E = [some (.int x), some (.int n), some (.int (x ^ i)), y]) ?_ ⟨rfl, none, ?_⟩ ?_ ?_
  · rw [len_rangeI]; omega
  · rw [Int.pow_zero]
  · rintro i z E S hz ⟨rfl, y, rfl⟩
    obtain ⟨j, rfl, hj⟩ := mem_rangeI _ _ _ (List.mem_of_getElem? hz)
    have hi : i < n := by
      have := (List.getElem?_eq_some_iff.mp hz).1
      rw [len_rangeI] at this; omega
    have hc : K * i ≤ 3000 * 12 := Nat.mul_le_mul hK (by omega)
    have M1 : mulFit (x ^ i) x = true := mulFit_of (up_lt (ipow_lt hx i) (show K * i + 1 ≤ 40000 by omega)) (up_lt hx (show K ≤ 40000 by omega)) (by decide)
    repeat array_get_dec
    exact ⟨rfl, _, by rw [Int.pow_succ]⟩
  · rintro E S ⟨rfl, y, rfl⟩
    rw [len_rangeI, Int.toNat_natCast]
    repeat array_get_dec
    rfl
theorem EE_pow {q : Nat} {a : Int} (hq : IsPr q) (ha : a ≠ 0) : ∀ n, EE q (a ^ n) = n * EE q a ∧ a ^ n ≠ 0
  | 0 => by
    rw [Int.pow_zero, Nat.zero_mul]
    have h2 := hq.1
    exact ⟨(EU_unit hq.1 (fun z => by have := Int.le_of_dvd (by decide) z; omega)).1, by decide⟩
  | n + 1 => by
    obtain ⟨h1, h2⟩ := EE_pow hq ha n
    rw [Int.pow_succ, (EU_mul hq h2 ha).1, h1, Nat.add_mul, Nat.one_mul]
    exact ⟨rfl, Int.mul_ne_zero h2 ha⟩
end Ar
end FX

set_option Elab.async false
set_option linter.all false
set_option maxRecDepth 100000
set_option maxHeartbeats 4000000
set_option autoImplicit false
namespace LW
open PySem PySem.Spec PyProof.Rows L2 FX
def top (i : Nat) : Stmt := PySem.Challenge.pw_wildsteps_k02_whole_powers_or_papers.main.body.getD i (.Pass ⟨0, 0, 0, 0⟩)
/-! ### the functions -/
def b_is_whole_number : MS :=
  (mRet (mAndV (mCall bIsI (mCons (mV 0) (mCons (mC (.ty .int)) mNil))) (mU fNotV (mCall bIsI (mCons (mV 0) (mCons (mC (.ty .bool)) mNil))))))
def m_is_whole_number : MF := mDef 1 b_is_whole_number
def b_is_integer : MS :=
  (mRet (mAndV (mCallO m_is_whole_number (mCons (mV 0) mNil)) (mChain fLt fLt (mU fNeg (mC (.int (1000000000000000000000000000000000000000000000000000000000000)))) (mV 0) (mC (.int (1000000000000000000000000000000000000000000000000000000000000))))))
def m_is_integer : MF := mDef 1 b_is_integer
def b_is_within : MS :=
  (mRet (mAndV (mCallO m_is_whole_number (mCons (mV 0) mNil)) (mChain fLe fLe (mV 1) (mV 0) (mV 2))))
def m_is_within : MF := mDef 3 b_is_within
def b_is_ratio_any : MS :=
  (mSeq (mIfS (mOrT (mNotT (mTru (mCall bIsI (mCons (mV 0) (mCons (mC (.ty .tuple)) mNil))))) (mOrT (mTB (mB fNe (mCall bLen (mCons (mV 0) mNil)) (mC (.int (2))))) (mNotT (mTru (mCall bAll (mCons (mLc 1000000 (mSeqW (mV 0)) (.name 1) mYes (mCallO m_is_whole_number (mCons (mV 1) mNil)) [1]) mNil)))))) (mRet (mC (.bl false))) mSkip)
    (mRet (mAndV (mB fGt (mB fIx (mV 0) (mC (.int 1))) (mC (.int 0))) (mB fEq (mCall bGcd (mCons (mB fIx (mV 0) (mC (.int 0))) (mCons (mB fIx (mV 0) (mC (.int 1))) mNil))) (mC (.int 1))))))
def m_is_ratio_any : MF := mDef 2 b_is_ratio_any
def b_is_number_any : MS :=
  (mRet (mOrV (mCallO m_is_whole_number (mCons (mV 0) mNil)) (mCallO m_is_ratio_any (mCons (mV 0) mNil))))
def m_is_number_any : MF := mDef 1 b_is_number_any
def b_is_number_in : MS :=
  (mRet (mOrV (mCallO m_is_integer (mCons (mV 0) mNil)) (mAndV (mCallO m_is_ratio_any (mCons (mV 0) mNil)) (mCall bAll (mCons (mLc 1000000 (mSeqW (mV 0)) (.name 1) mYes (mCallO m_is_integer (mCons (mV 1) mNil)) [1]) mNil)))))
def m_is_number_in : MF := mDef 2 b_is_number_in
def b_power_of : MS :=
  (mSeq (mPar3 2 3 4 (mCons (mC (.int 1)) (mCons (mV 0) (mCons (mV 1) mNil))))
    (mSeq (mWhile (mTB (mB fGt (mV 4) (mC (.int 0)))) (mSeq (mIfS (mTB (mB fEq (mB fMod (mV 4) (mC (.int 2))) (mC (.int 1)))) (mSet 2 (mB fMul (mV 2) (mV 3))) mSkip)
    (mSeq (mSet 4 (mB fDiv (mV 4) (mC (.int 2))))
    (mSet 3 (mIf (mTB (mB fGt (mV 4) (mC (.int 0)))) (mB fMul (mV 3) (mV 3)) (mV 3))))) 100000)
    (mRet (mV 2))))
def m_power_of : MF := mDef 5 b_power_of
def b_exponent_in : MS :=
  (mSeq (mSet 2 (mC (.int 0)))
    (mSeq (mWhile (mTB (mB fEq (mB fMod (mV 1) (mV 0)) (mC (.int 0)))) (mSeq (mAug 1 fDivS (mV 0))
    (mAug 2 fAddI (mC (.int 1)))) 100000)
    (mRet (mV 2))))
def m_exponent_in : MF := mDef 3 b_exponent_in
def b_pair_of : MS :=
  (mRet (mIf (mTru (mCall bIsI (mCons (mV 0) (mCons (mC (.ty .tuple)) mNil)))) (mV 0) (mTup (mCons (mV 0) (mCons (mC (.int 1)) mNil)))))
def m_pair_of : MF := mDef 1 b_pair_of
def b_value_in : MS :=
  (mSeq (mAsg (.tup [(.name 2), (.name 3)]) (mCallO m_pair_of (mCons (mV 1) mNil)))
    (mRet (mIf (mTB (mB fEq (mV 2) (mC (.int 0)))) (mC .non) (mB fSub (mCallO m_exponent_in (mCons (mV 0) (mCons (mV 2) mNil))) (mCallO m_exponent_in (mCons (mV 0) (mCons (mV 3) mNil)))))))
def m_value_in : MF := mDef 4 b_value_in
def b_undone_in : MS :=
  (mSeq (mAsg (.tup [(.name 2), (.name 3), (.name 4), (.name 5)]) (mTup (mCons (mB fMod (mV 0) (mV 1)) (mCons (mV 1) (mCons (mC (.int 1)) (mCons (mC (.int 0)) mNil))))))
    (mSeq (mWhile (mTB (mB fNe (mV 3) (mC (.int 0)))) (mSeq (mSet 6 (mB fDiv (mV 2) (mV 3)))
    (mAsg (.tup [(.name 2), (.name 3), (.name 4), (.name 5)]) (mTup (mCons (mV 3) (mCons (mB fSub (mV 2) (mB fMul (mV 6) (mV 3))) (mCons (mV 5) (mCons (mB fSub (mV 4) (mB fMul (mV 6) (mV 5))) mNil))))))) 100000)
    (mRet (mB fMod (mV 4) (mV 1)))))
def m_undone_in : MF := mDef 7 b_undone_in
def b_unit_in : MS :=
  (mSeq (mAsg (.tup [(.name 2), (.name 3)]) (mCallO m_pair_of (mCons (mV 1) mNil)))
    (mSeq (mPar 4 5 (mCons (mCallO m_power_of (mCons (mV 0) (mCons (mCallO m_exponent_in (mCons (mV 0) (mCons (mV 2) mNil))) mNil))) (mCons (mCallO m_power_of (mCons (mV 0) (mCons (mCallO m_exponent_in (mCons (mV 0) (mCons (mV 3) mNil))) mNil))) mNil)))
    (mRet (mTup (mCons (mB fDiv (mV 2) (mV 4)) (mCons (mB fDiv (mV 3) (mV 5)) mNil))))))
def m_unit_in : MF := mDef 6 b_unit_in
def b_rest_in : MS :=
  (mSeq (mAsg (.tup [(.name 3), (.name 4)]) (mCallO m_pair_of (mCons (mV 1) mNil)))
    (mSeq (mSet 5 (mCallO m_power_of (mCons (mV 0) (mCons (mV 2) mNil))))
    (mRet (mB fMod (mB fMul (mV 3) (mCallO m_undone_in (mCons (mV 4) (mCons (mV 5) mNil)))) (mV 5)))))
def m_rest_in : MF := mDef 6 b_rest_in
def b_power_level : MS :=
  (mRet (mB fAdd (mB fMul (mC (.int 2)) (mCallO m_exponent_in (mCons (mV 0) (mCons (mV 1) mNil)))) (mC (.int 1))))
def m_power_level : MF := mDef 2 b_power_level
def b_rest_root : MS :=
  (mSeq (mSet 4 (mCallO m_power_of (mCons (mV 0) (mCons (mV 3) mNil))))
    (mSeq (mSet 5 (mCallO m_rest_in (mCons (mV 0) (mCons (mV 1) (mCons (mV 3) mNil)))))
    (mSeq (mSet 6 (mLc 1000000 (mWk fRange (mCons (mC (.int 1)) (mCons (mV 4) mNil))) (.name 7) (mTB (mB fNe (mB fMod (mV 7) (mV 0)) (mC (.int 0)))) (mV 7) [7]))
    (mRet (mNx 1000000 (mSeqW (mV 6)) (.name 7) (mTB (mB fEq (mB fMod (mCallO m_power_of (mCons (mV 7) (mCons (mV 2) mNil))) (mV 4)) (mV 5))) (mV 7) [7])))))
def m_rest_root : MF := mDef 8 b_rest_root
def b_power_paper_in : MS :=
  (mSeq (mSet 3 (mCallO m_value_in (mCons (mV 0) (mCons (mV 1) mNil))))
    (mSeq (mIfS (mTB (mB fNe (mB fMod (mV 3) (mV 2)) (mC (.int 0)))) (mRet (mC (.tup [.str "value"]))) mSkip)
    (mSeq (mSet 4 (mCallO m_power_level (mCons (mV 0) (mCons (mV 2) mNil))))
    (mSeq (mPar 5 6 (mCons (mCallO m_rest_root (mCons (mV 0) (mCons (mCallO m_unit_in (mCons (mV 0) (mCons (mV 1) mNil))) (mCons (mV 2) (mCons (mV 4) mNil))))) (mCons (mB fDiv (mV 3) (mV 2)) mNil)))
    (mSeq (mIfS (mTB (mB fIsN (mV 5) (mC .non))) (mRet (mTup (mCons (mC (.str "rests")) (mCons (mV 4) mNil)))) mSkip)
    (mSeq (mSet 7 (mCallO m_power_of (mCons (mV 0) (mCons (mV 4) mNil))))
    (mSeq (mSet 5 (mIf (mTB (mB fGt (mB fMul (mC (.int 2)) (mV 5)) (mV 7))) (mB fSub (mV 5) (mV 7)) (mV 5)))
    (mRet (mTup (mCons (mC (.str "root")) (mCons (mIf (mTB (mB fGe (mV 6) (mC (.int 0)))) (mB fMul (mV 5) (mCallO m_power_of (mCons (mV 0) (mCons (mV 6) mNil)))) (mTup (mCons (mV 5) (mCons (mCallO m_power_of (mCons (mV 0) (mCons (mU fNeg (mV 6)) mNil))) mNil)))) mNil)))))))))))
def m_power_paper_in : MF := mDef 8 b_power_paper_in
def b_is_power_root_in : MS :=
  (mSeq (mIfS (mOrT (mNotT (mTru (mCallO m_is_number_any (mCons (mV 3) mNil)))) (mTB (mB fEq (mB fIx (mCallO m_pair_of (mCons (mV 3) mNil)) (mC (.int 0))) (mC (.int 0))))) (mRet (mC (.bl false))) mSkip)
    (mSeq (mAsg (.tup [(.tup [(.name 4), (.name 5)]), (.tup [(.name 6), (.name 7)])]) (mTup (mCons (mCallO m_pair_of (mCons (mV 3) mNil)) (mCons (mCallO m_pair_of (mCons (mV 1) mNil)) mNil))))
    (mSeq (mSet 8 (mB fMul (mCallO m_power_of (mCons (mV 4) (mCons (mV 2) mNil))) (mV 7)))
    (mSeq (mSet 9 (mB fMul (mCallO m_power_of (mCons (mV 5) (mCons (mV 2) mNil))) (mV 6)))
    (mSeq (mIfS (mTB (mB fEq (mV 8) (mV 9))) (mRet (mC (.bl true))) mSkip)
    (mRet (mB fGt (mB fSub (mCallO m_exponent_in (mCons (mV 0) (mCons (mB fSub (mV 8) (mV 9)) mNil))) (mCallO m_exponent_in (mCons (mV 0) (mCons (mV 9) mNil)))) (mB fMul (mC (.int 2)) (mCallO m_exponent_in (mCons (mV 0) (mCons (mV 2) mNil)))))))))))
def m_is_power_root_in : MF := mDef 10 b_is_power_root_in
def b_is_power_paper_in : MS :=
  (mSeq (mIfS (mOrT (mNotT (mTru (mCall bIsI (mCons (mV 3) (mCons (mC (.ty .tuple)) mNil))))) (mTB (mB fEq (mV 3) (mTup mNil)))) (mRet (mC (.bl false))) mSkip)
    (mSeq (mIfS (mTB (mB fEq (mCall bLen (mCons (mV 3) mNil)) (mC (.int 1)))) (mRet (mAndV (mB fEq (mV 3) (mC (.tup [.str "value"]))) (mB fNe (mB fMod (mCallO m_value_in (mCons (mV 0) (mCons (mV 1) mNil))) (mV 2)) (mC (.int 0))))) mSkip)
    (mSeq (mIfS (mOrT (mTB (mB fNe (mCall bLen (mCons (mV 3) mNil)) (mC (.int (2))))) (mNotT (mTru (mCall bIsI (mCons (mB fIx (mV 3) (mC (.int 0))) (mCons (mC (.ty .str)) mNil)))))) (mRet (mC (.bl false))) mSkip)
    (mSeq (mIfS (mTB (mB fEq (mB fIx (mV 3) (mC (.int 0))) (mC (.str "root")))) (mRet (mCallO m_is_power_root_in (mCons (mV 0) (mCons (mV 1) (mCons (mV 2) (mCons (mB fIx (mV 3) (mC (.int 1))) mNil)))))) mSkip)
    (mSeq (mIfS (mOrT (mTB (mB fNe (mB fIx (mV 3) (mC (.int 0))) (mC (.str "rests")))) (mNotT (mTru (mCallO m_is_within (mCons (mB fIx (mV 3) (mC (.int 1))) (mCons (mC (.int 1)) (mCons (mC (.int (66))) mNil))))))) (mRet (mC (.bl false))) mSkip)
    (mSeq (mSet 4 (mCall bMin (mCons (mB fIx (mV 3) (mC (.int 1))) (mCons (mCallO m_power_level (mCons (mV 0) (mCons (mV 2) mNil))) mNil))))
    (mRet (mB fIsN (mCallO m_rest_root (mCons (mV 0) (mCons (mCallO m_unit_in (mCons (mV 0) (mCons (mV 1) mNil))) (mCons (mV 2) (mCons (mV 4) mNil))))) (mC .non)))))))))
def m_is_power_paper_in : MF := mDef 5 b_is_power_paper_in
def b_require_prime : MS :=
  (mIfS (mOrT (mNotT (mTru (mCallO m_is_integer (mCons (mV 0) mNil)))) (mTB (mB fNotIn (mV 0) (mC (.tup (List.map IV.int [(2), (3), (5), (7)])))))) mStuck mSkip)
def m_require_prime : MF := mDef 1 b_require_prime
def b_require_number : MS :=
  (mIfS (mNotT (mTru (mCallO m_is_number_in (mCons (mV 0) mNil)))) mStuck mSkip)
def m_require_number : MF := mDef 1 b_require_number
def b_require_within : MS :=
  (mIfS (mNotT (mTru (mCallO m_is_within (mCons (mV 0) (mCons (mV 1) (mCons (mV 2) mNil)))))) mStuck mSkip)
def m_require_within : MF := mDef 3 b_require_within
def b_require_power : MS :=
  (mSeq (mDrop (mCallO m_require_prime (mCons (mV 0) mNil)))
    (mSeq (mDrop (mCallO m_require_number (mCons (mV 1) mNil)))
    (mSeq (mDrop (mCallO m_require_within (mCons (mV 2) (mCons (mC (.int 1)) (mCons (mC (.int (12))) mNil)))))
    (mIfS (mTB (mB fEq (mB fIx (mCallO m_pair_of (mCons (mV 1) mNil)) (mC (.int 0))) (mC (.int 0)))) mStuck mSkip))))
def m_require_power : MF := mDef 3 b_require_power
def b_power_paper : MS :=
  (mSeq (mDrop (mCallO m_require_power (mCons (mV 0) (mCons (mV 1) (mCons (mV 2) mNil)))))
    (mRet (mCallO m_power_paper_in (mCons (mV 0) (mCons (mV 1) (mCons (mV 2) mNil))))))
def m_power_paper : MF := mDef 3 b_power_paper
def b_is_power_paper : MS :=
  (mSeq (mDrop (mCallO m_require_power (mCons (mV 0) (mCons (mV 1) (mCons (mV 2) mNil)))))
    (mRet (mCallO m_is_power_paper_in (mCons (mV 0) (mCons (mV 1) (mCons (mV 2) (mCons (mV 3) mNil)))))))
def m_is_power_paper : MF := mDef 4 b_is_power_paper
def b__law_dice : MS :=
  (mSeq (mSet 2 (mB fAdd (mB fMul (mC (.int 107)) (mV 1)) (mC (.int 53))))
    (mSeq (mIfS (mTB (mB fLt (mV 1) (mCall bLen (mCons (mV 0) mNil)))) (mSet 2 (mB fIx (mV 0) (mV 1))) mSkip)
    (mSeq (mSet 3 (mB fMod (mCall bInt (mCons (mCall bAbs (mCons (mV 2) mNil)) mNil)) (mB fPow (mB fPow (mC (.int 10)) (mC (.int 60))) (mC (.int 10)))))
    (mSeq (mSet 4 (mB fDiv (mV 3) (mB fPow (mC (.int 10)) (mC (.int 18)))))
    (mSeq (mSet 5 (mB fAdd (mB fAdd (mB fAdd (mB fMul (mB fMod (mV 3) (mC (.int 2147482589))) (mC (.int 60589))) (mB fMul (mC (.int 3559)) (mV 1))) (mB fMul (mC (.int 97)) (mCall bInt (mCons (mB fLt (mV 2) (mC (.int 0))) mNil)))) (mC (.int 131))))
    (mRet (mLst (mCons (mV 4) (mCons (mB fMod (mV 5) (mC (.int 2147482577))) (mCons (mC (.int 0)) mNil))))))))))
def m__law_dice : MF := mDef 6 b__law_dice
def b__law_roll : MS :=
  (mSeq (mSet 2 (mCall bInt (mCons (mV 1) mNil)))
    (mSeq (mIfS (mTB (mB fGt (mB fIx (mV 0) (mC (.int 0))) (mC (.int 0)))) (mSeq (mSet 3 (mB fMod (mB fIx (mV 0) (mC (.int 0))) (mV 2)))
    (mSeq (mPut (mV 0) (mC (.int 0)) (mB fDiv (mB fIx (mV 0) (mC (.int 0))) (mV 2)))
    (mRet (mCall bInt (mCons (mV 3) mNil))))) mSkip)
    (mSeq (mPut (mV 0) (mC (.int 2)) (mB fAdd (mB fIx (mV 0) (mC (.int 2))) (mC (.int 1))))
    (mSeq (mSet 4 (mB fMod (mB fAdd (mB fIx (mV 0) (mC (.int 1))) (mB fMul (mC (.int 1000393)) (mB fIx (mV 0) (mC (.int 2))))) (mC (.int 2305843009213693951))))
    (mSeq (mSet 5 (mB fAdd (mB fMul (mB fMod (mB fMul (mV 4) (mV 4)) (mC (.int 2305843009213693921))) (mV 4)) (mB fMul (mC (.int 9511)) (mB fIx (mV 0) (mC (.int 2))))))
    (mSeq (mSet 5 (mB fMod (mV 5) (mC (.int 2305843009213693907))))
    (mRet (mCall bInt (mCons (mB fMod (mB fDiv (mV 5) (mC (.int 4096))) (mV 2)) mNil)))))))))
def m__law_roll : MF := mDef 6 b__law_roll
def b__law_one_of : MS :=
  (mRet (mB fIx (mV 1) (mCallO m__law_roll (mCons (mV 0) (mCons (mCall bLen (mCons (mV 1) mNil)) mNil)))))
def m__law_one_of : MF := mDef 2 b__law_one_of
def b__law_power : MS :=
  (mSeq (mSet 2 (mC (.int 1)))
    (mSeq (mFor 1000000 (mWk fRange (mCons (mV 1) mNil)) (.name 3) (mSet 2 (mB fMul (mV 2) (mV 0))))
    (mRet (mV 2))))
def m__law_power : MF := mDef 4 b__law_power
def b__law_gcd : MS :=
  (mSeq (mPar 0 1 (mCons (mCall bAbs (mCons (mV 0) mNil)) (mCons (mCall bAbs (mCons (mV 1) mNil)) mNil)))
    (mSeq (mWhile (mTB (mB fGt (mV 1) (mC (.int 0)))) (mPar 0 1 (mCons (mV 1) (mCons (mB fMod (mV 0) (mV 1)) mNil))) 100000)
    (mRet (mV 0))))
def m__law_gcd : MF := mDef 2 b__law_gcd
def b__law_lowest : MS :=
  (mSeq (mSet 2 (mCallO m__law_gcd (mCons (mV 0) (mCons (mV 1) mNil))))
    (mSeq (mIfS (mTB (mB fLt (mV 1) (mC (.int 0)))) (mSet 2 (mB fSub (mC (.int 0)) (mV 2))) mSkip)
    (mRet (mTup (mCons (mB fDiv (mV 0) (mV 2)) (mCons (mB fDiv (mV 1) (mV 2)) mNil))))))
def m__law_lowest : MF := mDef 3 b__law_lowest
def b__law_exponent : MS :=
  (mSeq (mPar 2 3 (mCons (mC (.int 0)) (mCons (mV 1) mNil)))
    (mSeq (mWhile (mTB (mB fEq (mB fMod (mV 3) (mV 0)) (mC (.int 0)))) (mPar 3 2 (mCons (mB fDiv (mV 3) (mV 0)) (mCons (mB fAdd (mV 2) (mC (.int 1))) mNil))) 100000)
    (mRet (mV 2))))
def m__law_exponent : MF := mDef 4 b__law_exponent
def b__law_is_above : MS :=
  (mRet (mOrV (mB fIsN (mV 0) (mC .non)) (mB fGt (mV 0) (mV 1))))
def m__law_is_above : MF := mDef 2 b__law_is_above
def b__law_split : MS :=
  (mSeq (mSet 2 (mB fSub (mCallO m__law_exponent (mCons (mV 0) (mCons (mB fIx (mV 1) (mC (.int 0))) mNil))) (mCallO m__law_exponent (mCons (mV 0) (mCons (mB fIx (mV 1) (mC (.int 1))) mNil)))))
    (mSeq (mSet 3 (mB fDiv (mB fIx (mV 1) (mC (.int 0))) (mCallO m__law_power (mCons (mV 0) (mCons (mCallO m__law_exponent (mCons (mV 0) (mCons (mB fIx (mV 1) (mC (.int 0))) mNil))) mNil)))))
    (mRet (mTup (mCons (mV 2) (mCons (mTup (mCons (mV 3) (mCons (mB fDiv (mB fIx (mV 1) (mC (.int 1))) (mCallO m__law_power (mCons (mV 0) (mCons (mCallO m__law_exponent (mCons (mV 0) (mCons (mB fIx (mV 1) (mC (.int 1))) mNil))) mNil)))) mNil))) mNil))))))
def m__law_split : MF := mDef 4 b__law_split
def b__law_is_near_power : MS :=
  (mSeq (mSet 4 (mCallO m__law_power (mCons (mV 0) (mCons (mV 3) mNil))))
    (mRet (mB fNe (mLc 1000000 (mWk fRange (mCons (mV 4) mNil)) (.name 5) (mTB (mB fEq (mB fMod (mB fSub (mB fMul (mCallO m__law_power (mCons (mV 5) (mCons (mV 2) mNil))) (mB fIx (mV 1) (mC (.int 1)))) (mB fIx (mV 1) (mC (.int 0)))) (mV 4)) (mC (.int 0)))) (mV 5) [5]) (mLst mNil))))
def m__law_is_near_power : MF := mDef 6 b__law_is_near_power
def b__law_is_root : MS :=
  (mSeq (mIfS (mAndT (mTru (mCall bIsI (mCons (mV 3) (mCons (mC (.ty .int)) mNil)))) (mNotT (mTru (mCall bIsI (mCons (mV 3) (mCons (mC (.ty .bool)) mNil)))))) (mSet 3 (mTup (mCons (mV 3) (mCons (mC (.int 1)) mNil)))) mSkip)
    (mSeq (mIfS (mOrT (mNotT (mTru (mCall bIsI (mCons (mV 3) (mCons (mC (.ty .tuple)) mNil))))) (mTB (mB fNe (mCall bLen (mCons (mV 3) mNil)) (mC (.int 2))))) (mRet (mC (.bl false))) mSkip)
    (mSeq (mIfS (mTB (mB fNe (mLc 1000000 (mSeqW (mV 3)) (.name 6) (mOrT (mTru (mCall bIsI (mCons (mV 6) (mCons (mC (.ty .bool)) mNil)))) (mNotT (mTru (mCall bIsI (mCons (mV 6) (mCons (mC (.ty .int)) mNil)))))) (mC (.int 1)) [6]) (mLst mNil))) (mRet (mC (.bl false))) mSkip)
    (mSeq (mIfS (mOrT (mTB (mB fLt (mB fIx (mV 3) (mC (.int 1))) (mC (.int 1)))) (mOrT (mTB (mB fNe (mCallO m__law_gcd (mCons (mB fIx (mV 3) (mC (.int 0))) (mCons (mB fIx (mV 3) (mC (.int 1))) mNil))) (mC (.int 1)))) (mTB (mB fEq (mB fIx (mV 3) (mC (.int 0))) (mC (.int 0)))))) (mRet (mC (.bl false))) mSkip)
    (mSeq (mSet 4 (mB fSub (mB fMul (mCallO m__law_power (mCons (mB fIx (mV 3) (mC (.int 0))) (mCons (mV 2) mNil))) (mB fIx (mV 1) (mC (.int 1)))) (mB fMul (mCallO m__law_power (mCons (mB fIx (mV 3) (mC (.int 1))) (mCons (mV 2) mNil))) (mB fIx (mV 1) (mC (.int 0))))))
    (mSeq (mIfS (mTB (mB fEq (mV 4) (mC (.int 0)))) (mRet (mC (.bl true))) mSkip)
    (mSeq (mSet 5 (mB fAdd (mCallO m__law_exponent (mCons (mV 0) (mCons (mB fIx (mV 1) (mC (.int 0))) mNil))) (mB fMul (mV 2) (mCallO m__law_exponent (mCons (mV 0) (mCons (mB fIx (mV 3) (mC (.int 1))) mNil))))))
    (mRet (mB fGt (mB fSub (mCallO m__law_exponent (mCons (mV 0) (mCons (mV 4) mNil))) (mV 5)) (mB fMul (mC (.int 2)) (mCallO m__law_exponent (mCons (mV 0) (mCons (mV 2) mNil)))))))))))))
def m__law_is_root : MF := mDef 7 b__law_is_root
def b__law_is_paper : MS :=
  (mSeq (mIfS (mOrT (mNotT (mTru (mCall bIsI (mCons (mV 3) (mCons (mC (.ty .tuple)) mNil))))) (mOrT (mTB (mB fEq (mV 3) (mTup mNil))) (mNotT (mTru (mCall bIsI (mCons (mB fIx (mV 3) (mC (.int 0))) (mCons (mC (.ty .str)) mNil))))))) (mRet (mC (.bl false))) mSkip)
    (mSeq (mAsg (.tup [(.name 4), (.name 5)]) (mCallO m__law_split (mCons (mV 0) (mCons (mV 1) mNil))))
    (mSeq (mIfS (mTB (mB fEq (mB fIx (mV 3) (mC (.int 0))) (mC (.str "value")))) (mRet (mAndV (mB fEq (mCall bLen (mCons (mV 3) mNil)) (mC (.int 1))) (mB fNe (mB fMod (mV 4) (mV 2)) (mC (.int 0))))) mSkip)
    (mSeq (mIfS (mTB (mB fNe (mCall bLen (mCons (mV 3) mNil)) (mC (.int 2)))) (mRet (mC (.bl false))) mSkip)
    (mSeq (mIfS (mTB (mB fEq (mB fIx (mV 3) (mC (.int 0))) (mC (.str "rests")))) (mSeq (mIfS (mOrT (mTru (mCall bIsI (mCons (mB fIx (mV 3) (mC (.int 1))) (mCons (mC (.ty .bool)) mNil)))) (mOrT (mNotT (mTru (mCall bIsI (mCons (mB fIx (mV 3) (mC (.int 1))) (mCons (mC (.ty .int)) mNil))))) (mNotT (mTB (mChain fLe fLe (mC (.int 1)) (mB fIx (mV 3) (mC (.int 1))) (mC (.int 66))))))) (mRet (mC (.bl false))) mSkip)
    (mRet (mU fNotV (mCallO m__law_is_near_power (mCons (mV 0) (mCons (mV 5) (mCons (mV 2) (mCons (mCall bMin (mCons (mB fIx (mV 3) (mC (.int 1))) (mCons (mB fAdd (mB fMul (mC (.int 2)) (mCallO m__law_exponent (mCons (mV 0) (mCons (mV 2) mNil)))) (mC (.int 1))) mNil))) mNil)))))))) mSkip)
    (mRet (mAndV (mB fEq (mB fIx (mV 3) (mC (.int 0))) (mC (.str "root"))) (mCallO m__law_is_root (mCons (mV 0) (mCons (mV 1) (mCons (mV 2) (mCons (mB fIx (mV 3) (mC (.int 1))) mNil))))))))))))
def m__law_is_paper : MF := mDef 6 b__law_is_paper
def b__law_number_drawn : MS :=
  (mSeq (mPar 3 4 (mCons (mB fAdd (mC (.int 1)) (mCallO m__law_roll (mCons (mV 0) (mCons (mC (.int 30)) mNil)))) (mCons (mB fAdd (mC (.int 1)) (mCallO m__law_roll (mCons (mV 0) (mCons (mCallO m__law_one_of (mCons (mV 0) (mCons (mLst (mCons (mC (.int 1)) (mCons (mC (.int 1)) (mCons (mC (.int 9)) mNil)))) mNil))) mNil)))) mNil)))
    (mSeq (mSet 5 (mCallO m__law_one_of (mCons (mV 0) (mCons (mLst (mCons (mC (.int 1)) (mCons (mC (.int 1)) (mCons (mU fNeg (mC (.int 1))) mNil)))) mNil))))
    (mSeq (mSet 6 (mCallO m__law_lowest (mCons (mB fMul (mB fMul (mV 5) (mV 3)) (mCallO m__law_power (mCons (mV 1) (mCons (mCallO m__law_one_of (mCons (mV 0) (mCons (mLst (mCons (mC (.int 0)) (mCons (mC (.int 0)) (mCons (mC (.int 1)) (mCons (mC (.int 2)) (mCons (mC (.int 3)) mNil)))))) mNil))) mNil)))) (mCons (mV 4) mNil))))
    (mSeq (mIfS (mTB (mB fEq (mCallO m__law_roll (mCons (mV 0) (mCons (mC (.int 2)) mNil))) (mC (.int 0)))) (mSeq (mSet 6 (mTup (mCons (mCallO m__law_power (mCons (mB fIx (mV 6) (mC (.int 0))) (mCons (mV 2) mNil))) (mCons (mCallO m__law_power (mCons (mB fIx (mV 6) (mC (.int 1))) (mCons (mV 2) mNil))) mNil))))
    (mSeq (mSet 7 (mB fMul (mCallO m__law_power (mCons (mV 1) (mCons (mCallO m__law_roll (mCons (mV 0) (mCons (mC (.int 9)) mNil))) mNil))) (mCallO m__law_one_of (mCons (mV 0) (mCons (mLst (mCons (mC (.int 0)) (mCons (mC (.int 1)) (mCons (mU fNeg (mC (.int 1))) (mCons (mC (.int 2)) mNil))))) mNil)))))
    (mIfS (mTB (mB fNe (mB fAdd (mB fIx (mV 6) (mC (.int 0))) (mV 7)) (mC (.int 0)))) (mSet 6 (mCallO m__law_lowest (mCons (mB fAdd (mB fIx (mV 6) (mC (.int 0))) (mV 7)) (mCons (mB fIx (mV 6) (mC (.int 1))) mNil)))) mSkip))) mSkip)
    (mRet (mIf (mTB (mB fLt (mCall bMax (mCons (mCall bAbs (mCons (mB fIx (mV 6) (mC (.int 0))) mNil)) (mCons (mB fIx (mV 6) (mC (.int 1))) mNil))) (mB fPow (mC (.int 10)) (mC (.int 59))))) (mV 6) (mTup (mCons (mC (.int 3)) (mCons (mC (.int 2)) mNil)))))))))
def m__law_number_drawn : MF := mDef 8 b__law_number_drawn
def b__law_right : MS :=
  (mSeq (mPar 1 2 (mCons (mCallO m__law_one_of (mCons (mV 0) (mCons (mLst (mCons (mC (.int 2)) (mCons (mC (.int 3)) (mCons (mC (.int 5)) (mCons (mC (.int 7)) mNil))))) mNil))) (mCons (mB fAdd (mC (.int 1)) (mCallO m__law_roll (mCons (mV 0) (mCons (mC (.int 12)) mNil)))) mNil)))
    (mSeq (mSet 3 (mCallO m__law_number_drawn (mCons (mV 0) (mCons (mV 1) (mCons (mV 2) mNil)))))
    (mSeq (mAsg (.tup [(.name 4), (.name 5)]) (mCallO m__law_split (mCons (mV 1) (mCons (mV 3) mNil))))
    (mSeq (mSet 6 (mIf (mTB (mB fEq (mB fIx (mV 3) (mC (.int 1))) (mC (.int 1)))) (mB fIx (mV 3) (mC (.int 0))) (mV 3)))
    (mSeq (mSet 7 (mCallO m_power_paper (mCons (mV 1) (mCons (mV 6) (mCons (mV 2) mNil)))))
    (mSeq (mSet 8 (mAndV (mB fEq (mB fMod (mV 4) (mV 2)) (mC (.int 0))) (mCallO m__law_is_near_power (mCons (mV 1) (mCons (mV 5) (mCons (mV 2) (mCons (mB fAdd (mB fMul (mC (.int 2)) (mCallO m__law_exponent (mCons (mV 1) (mCons (mV 2) mNil)))) (mC (.int 1))) mNil)))))))
    (mSeq (mIfS (mOrT (mNotT (mTru (mCallO m__law_is_paper (mCons (mV 1) (mCons (mV 3) (mCons (mV 2) (mCons (mV 7) mNil))))))) (mTB (mB fNe (mB fEq (mB fIx (mV 7) (mC (.int 0))) (mC (.str "root"))) (mV 8)))) (mRet (mC (.bl false))) mSkip)
    (mSeq (mIfS (mNotT (mTru (mCallO m_is_power_paper (mCons (mV 1) (mCons (mV 6) (mCons (mV 2) (mCons (mV 7) mNil))))))) (mRet (mC (.bl false))) mSkip)
    (mSeq (mSet 9 (mLst (mCons (mTup (mCons (mC (.str "value")) mNil)) (mCons (mTup (mCons (mC (.str "rests")) (mCons (mB fAdd (mB fMul (mC (.int 2)) (mCallO m__law_exponent (mCons (mV 1) (mCons (mV 2) mNil)))) (mC (.int 1))) mNil))) (mCons (mTup (mCons (mC (.str "rests")) (mCons (mC (.int 66)) mNil))) (mCons (mTup (mCons (mC (.str "rests")) (mCons (mB fAdd (mC (.int 1)) (mCallO m__law_roll (mCons (mV 0) (mCons (mC (.int 8)) mNil)))) mNil))) mNil))))))
    (mSeq (mSet 9 (mB fAdd (mV 9) (mLst (mCons (mTup (mCons (mC (.str "rests")) (mCons (mC (.int 0)) mNil))) (mCons (mTup (mCons (mC (.str "rests")) (mCons (mC (.bl true)) mNil))) (mCons (mTup (mCons (mC (.str "rests")) (mCons (mC (.int 67)) mNil))) (mCons (mTup (mCons (mC (.str "root")) (mCons (mC (.int 0)) mNil))) (mCons (mTup (mCons (mC (.str "root")) (mCons (mC .non) mNil))) (mCons (mTup (mCons (mC (.str "root")) mNil)) (mCons (mTup mNil) mNil))))))))))
    (mSeq (mSet 9 (mB fAdd (mV 9) (mLst (mCons (mTup (mCons (mC (.str "value")) (mCons (mC (.int 1)) mNil))) (mCons (mC .non) (mCons (mC (.int 5)) (mCons (mC (.str "root")) (mCons (mLst (mCons (mC (.str "value")) mNil)) (mCons (mTup (mCons (mC (.str "root")) (mCons (mTup (mCons (mC (.int 2)) (mCons (mC (.int 4)) mNil))) mNil))) (mCons (mTup (mCons (mC (.str "root")) (mCons (mV 5) mNil))) (mCons (mTup (mCons (mC (.str "rest")) (mCons (mC (.int 3)) mNil))) mNil)))))))))))
    (mSeq (mDrop (mMet fAppend (mV 9) (mCons (mTup (mCons (mC (.str "root")) (mCons (mB fSub (mCallO m__law_roll (mCons (mV 0) (mCons (mC (.int 50)) mNil))) (mC (.int 25))) mNil))) mNil)))
    (mSeq (mIfS (mAndT (mTB (mB fEq (mB fIx (mV 7) (mC (.int 0))) (mC (.str "root")))) (mTru (mCall bIsI (mCons (mB fIx (mV 7) (mC (.int 1))) (mCons (mC (.ty .int)) mNil))))) (mFor 1000000 (mSeqW (mTup (mCons (mC (.int 1)) (mCons (mV 1) (mCons (mCallO m__law_power (mCons (mV 1) (mCons (mC (.int 3)) mNil))) (mCons (mCallO m__law_power (mCons (mV 1) (mCons (mC (.int 20)) mNil))) (mCons (mB fMul (mU fNeg (mC (.int 2))) (mB fIx (mV 7) (mC (.int 1)))) mNil))))))) (.name 10) (mDrop (mMet fAppend (mV 9) (mCons (mTup (mCons (mC (.str "root")) (mCons (mB fAdd (mB fIx (mV 7) (mC (.int 1))) (mV 10)) mNil))) mNil)))) mSkip)
    (mSeq (mFor 1000000 (mSeqW (mV 9)) (.name 11) (mIfS (mTB (mB fNe (mCallO m_is_power_paper (mCons (mV 1) (mCons (mV 6) (mCons (mV 2) (mCons (mV 11) mNil))))) (mCallO m__law_is_paper (mCons (mV 1) (mCons (mV 3) (mCons (mV 2) (mCons (mV 11) mNil))))))) (mRet (mC (.bl false))) mSkip))
    (mRet (mC (.bl true)))))))))))))))))
def m__law_right : MF := mDef 12 b__law_right
def b_law : MS :=
  (mSeq (mFor 1000000 (mWk fRange (mCons (mCall bMax (mCons (mC (.int 1)) (mCons (mCall bMin (mCons (mC (.int 4)) (mCons (mCall bLen (mCons (mV 0) mNil)) mNil))) mNil))) mNil)) (.name 1) (mIfS (mNotT (mTru (mCallO m__law_right (mCons (mCallO m__law_dice (mCons (mV 0) (mCons (mV 1) mNil))) mNil)))) (mRet (mC (.bl false))) mSkip))
    (mRet (mC (.bl true))))
def m_law : MF := mDef 2 b_law
/-! ### what the top has written -/
def gnm : Nat → Str := fun _ => "law"
def fnm : Nat → Str := fun _ => ""
abbrev CW (K : PySem.W.Frag) (Tb : List (Addr × Str)) : Wd := ⟨K, fun n => He.ga K (gnm n), fnm, Tb⟩
structure Tx (K : PySem.W.Frag) (mg : Str → Option Value) (base : Heap) (Tb : List (Addr × Str)) : Prop where
  n_abs : mg "abs" = none
  n_all : mg "all" = none
  n_bool : mg "bool" = none
  n_int : mg "int" = none
  n_isinstance : mg "isinstance" = none
  n_len : mg "len" = none
  n_max : mg "max" = none
  n_min : mg "min" = none
  n_next : mg "next" = none
  n_range : mg "range" = none
  n_str : mg "str" = none
  n_tuple : mg "tuple" = none
  i_MAX_EXPONENT : ∃ t, mg "MAX_EXPONENT" = some (.int (12) t)
  i_MAX_LEVEL : ∃ t, mg "MAX_LEVEL" = some (.int (66) t)
  i_PAIR : ∃ t, mg "PAIR" = some (.int (2) t)
  i_SIXTY : ∃ t, mg "SIXTY" = some (.int (1000000000000000000000000000000000000000000000000000000000000) t)
  g_PRIMES : mg "PRIMES" = some (.ref (He.ga K "PRIMES"))
  t_PRIMES : ∀ H, SqT K H (He.ga K "PRIMES") (List.map V.int [(2), (3), (5), (7)])
  g_VALUE : mg "VALUE" = some (.ref (He.ga K "VALUE"))
  t_VALUE : ∀ H, SqT K H (He.ga K "VALUE") [V.str "value"]
  s_RESTS : ∃ t, mg "RESTS" = some (.str "rests" t)
  s_ROOT : ∃ t, mg "ROOT" = some (.str "root" t)
  f_gcd : mg "gcd" = some (.builtin "math.gcd")
  x_rest_root : GxD K mg base Tb "rest_root"
abbrev At (K : PySem.W.Frag) (mg : Str → Option Value) (x : Str) (i : Nat) : Prop := ∃ fd, FunD K x x (defArgs (top i)) (defBody (top i)) (defScope (top i)) [] [] (He.ga K x) fd ∧ mg x = some (.ref (He.ga K x))
structure Dx (K : PySem.W.Frag) (mg : Str → Option Value) : Prop where
  d_is_whole_number : At K mg "is_whole_number" 14
  d_is_integer : At K mg "is_integer" 15
  d_is_within : At K mg "is_within" 16
  d_is_ratio_any : At K mg "is_ratio_any" 17
  d_is_number_any : At K mg "is_number_any" 18
  d_is_number_in : At K mg "is_number_in" 19
  d_power_of : At K mg "power_of" 20
  d_exponent_in : At K mg "exponent_in" 21
  d_pair_of : At K mg "pair_of" 22
  d_value_in : At K mg "value_in" 23
  d_undone_in : At K mg "undone_in" 24
  d_unit_in : At K mg "unit_in" 25
  d_rest_in : At K mg "rest_in" 26
  d_power_level : At K mg "power_level" 27
  d_rest_root : At K mg "rest_root" 28
  d_power_paper_in : At K mg "power_paper_in" 29
  d_is_power_root_in : At K mg "is_power_root_in" 30
  d_is_power_paper_in : At K mg "is_power_paper_in" 31
  d_require_prime : At K mg "require_prime" 32
  d_require_number : At K mg "require_number" 33
  d_require_within : At K mg "require_within" 34
  d_require_power : At K mg "require_power" 35
  d_power_paper : At K mg "power_paper" 36
  d_is_power_paper : At K mg "is_power_paper" 37
  d__law_dice : At K mg "_law_dice" 39
  d__law_roll : At K mg "_law_roll" 40
  d__law_one_of : At K mg "_law_one_of" 41
  d__law_power : At K mg "_law_power" 42
  d__law_gcd : At K mg "_law_gcd" 43
  d__law_lowest : At K mg "_law_lowest" 44
  d__law_exponent : At K mg "_law_exponent" 45
  d__law_is_above : At K mg "_law_is_above" 46
  d__law_split : At K mg "_law_split" 47
  d__law_is_near_power : At K mg "_law_is_near_power" 48
  d__law_is_root : At K mg "_law_is_root" 49
  d__law_is_paper : At K mg "_law_is_paper" 50
  d__law_number_drawn : At K mg "_law_number_drawn" 51
  d__law_right : At K mg "_law_right" 52
  d_law : At K mg "law" 53
section
variable {P : Program} {w : World} {K : PySem.W.Frag} {mg : Str → Option Value} {base : Heap} {Tb : List (Addr × Str)}
theorem sc_is_whole_number : FnScope ["value"] ["value"] (defScope (top 14)) := ⟨rfl, rfl, rfl, by decide +kernel, rfl, by decide +kernel, by decide +kernel⟩
theorem k_is_whole_number (T : Tx K mg base Tb) (D : Dx K mg) {fd : FuncData} (F : FunD K "is_whole_number" "is_whole_number" (defArgs (top 14)) (defBody (top 14)) (defScope (top 14)) [] [] (He.ga K "is_whole_number") fd) : FnOk P w K mg base (L2.CX P w) 1 (He.ga K "is_whole_number") fd ["value"] (spI (CW K Tb) 1 m_is_whole_number) := by
  refine qf_def F sc_is_whole_number fun cdv A outer s H E hr => ?_
  have tk := takes_of (X := (cxOf (L2.CX P w) P w K mg base ["value"] "is_whole_number" (defScope (top 14)) (He.ga K "is_whole_number") cdv A outer s H E)) (E := E) rfl rfl rfl rfl
  show PSs _ _ (tS (CW K Tb) b_is_whole_number _)
  exact (qs_one (qs_ret (qe_and (qisinst rfl T.n_isinstance (qa_cons (qv 0) (qa_cons (qe_ty (t := .int) rfl T.n_int (by decide +kernel)) qa_nil))) (qe_one (qe_not (qisinst rfl T.n_isinstance (qa_cons (qv 0) (qa_cons (qe_ty (t := .bool) rfl T.n_bool (by decide +kernel)) qa_nil))))))))
theorem o_is_whole_number (T : Tx K mg base Tb) (D : Dx K mg) : Ok P w K mg base (CW K Tb) 1 "is_whole_number" ["value"] m_is_whole_number := by
  obtain ⟨fd, F, hm⟩ := D.d_is_whole_number
  exact ⟨fd, k_is_whole_number T D F, F.bindsN fun _ _ _ _ _ _ us hl => match us, hl with | [_], _ => rfl, F.kp, hm⟩
theorem sc_is_integer : FnScope ["value"] ["value"] (defScope (top 15)) := ⟨rfl, rfl, rfl, by decide +kernel, rfl, by decide +kernel, by decide +kernel⟩
theorem k_is_integer (T : Tx K mg base Tb) (D : Dx K mg) {fd : FuncData} (F : FunD K "is_integer" "is_integer" (defArgs (top 15)) (defBody (top 15)) (defScope (top 15)) [] [] (He.ga K "is_integer") fd) : FnOk P w K mg base (L2.CX P w) 2 (He.ga K "is_integer") fd ["value"] (spI (CW K Tb) 1 m_is_integer) := by
  refine qf_def F sc_is_integer fun cdv A outer s H E hr => ?_
  have tk := takes_of (X := (cxOf (L2.CX P w) P w K mg base ["value"] "is_integer" (defScope (top 15)) (He.ga K "is_integer") cdv A outer s H E)) (E := E) rfl rfl rfl rfl
  show PSs _ _ (tS (CW K Tb) b_is_integer _)
  exact (qs_one (qs_ret (qe_and (qe_fn (o_is_whole_number T D) tk hr (by decide) rfl (qa_cons (qv 0) qa_nil) (lenA_cons lenA_nil) rfl) (qe_one (qe_chain op_lt op_lt (fCmpI_ok _) (fCmpI_ok _) (qe_neg (qgint T.i_SIXTY)) (qv 0) (qgint T.i_SIXTY))))))
theorem o_is_integer (T : Tx K mg base Tb) (D : Dx K mg) : Ok P w K mg base (CW K Tb) 2 "is_integer" ["value"] m_is_integer := by
  obtain ⟨fd, F, hm⟩ := D.d_is_integer
  exact ⟨fd, k_is_integer T D F, F.bindsN fun _ _ _ _ _ _ us hl => match us, hl with | [_], _ => rfl, F.kp, hm⟩
theorem sc_is_within : FnScope ["value", "least", "most"] ["value", "least", "most"] (defScope (top 16)) := ⟨rfl, rfl, rfl, by decide +kernel, rfl, by decide +kernel, by decide +kernel⟩
theorem k_is_within (T : Tx K mg base Tb) (D : Dx K mg) {fd : FuncData} (F : FunD K "is_within" "is_within" (defArgs (top 16)) (defBody (top 16)) (defScope (top 16)) [] [] (He.ga K "is_within") fd) : FnOk P w K mg base (L2.CX P w) 2 (He.ga K "is_within") fd ["value", "least", "most"] (spI (CW K Tb) 3 m_is_within) := by
  refine qf_def F sc_is_within fun cdv A outer s H E hr => ?_
  have tk := takes_of (X := (cxOf (L2.CX P w) P w K mg base ["value", "least", "most"] "is_within" (defScope (top 16)) (He.ga K "is_within") cdv A outer s H E)) (E := E) rfl rfl rfl rfl
  show PSs _ _ (tS (CW K Tb) b_is_within _)
  exact (qs_one (qs_ret (qe_and (qe_fn (o_is_whole_number T D) tk hr (by decide) rfl (qa_cons (qv 0) qa_nil) (lenA_cons lenA_nil) rfl) (qe_one (qe_chain op_le op_le (fCmpI_ok _) (fCmpI_ok _) (qv 1) (qv 0) (qv 2))))))
theorem o_is_within (T : Tx K mg base Tb) (D : Dx K mg) : Ok P w K mg base (CW K Tb) 2 "is_within" ["value", "least", "most"] m_is_within := by
  obtain ⟨fd, F, hm⟩ := D.d_is_within
  exact ⟨fd, k_is_within T D F, F.bindsN fun _ _ _ _ _ _ us hl => match us, hl with | [_, _, _], _ => rfl, F.kp, hm⟩
theorem sc_is_ratio_any : FnScope ["value", "one"] ["value"] (defScope (top 17)) := ⟨rfl, rfl, rfl, by decide +kernel, rfl, by decide +kernel, by decide +kernel⟩
theorem k_is_ratio_any (T : Tx K mg base Tb) (D : Dx K mg) {fd : FuncData} (F : FunD K "is_ratio_any" "is_ratio_any" (defArgs (top 17)) (defBody (top 17)) (defScope (top 17)) [] [] (He.ga K "is_ratio_any") fd) : FnOk P w K mg base (L2.CX P w) 2 (He.ga K "is_ratio_any") fd ["value"] (spI (CW K Tb) 1 m_is_ratio_any) := by
  refine qf_def F sc_is_ratio_any fun cdv A outer s H E hr => ?_
  have tk := takes_of (X := (cxOf (L2.CX P w) P w K mg base ["value", "one"] "is_ratio_any" (defScope (top 17)) (He.ga K "is_ratio_any") cdv A outer s H E)) (E := E) rfl rfl rfl rfl
  show PSs _ _ (tS (CW K Tb) b_is_ratio_any _)
  exact (qs_cons (qs_if (qt_w (qw_or (qt_not (qt_truth rfl (qisinst rfl T.n_isinstance (qa_cons (qv 0) (qa_cons (qe_ty (t := .tuple) rfl T.n_tuple (by decide +kernel)) qa_nil))))) (qw_or (qtcmp (op_neK rfl (u64 hr)) fNe_ok (qlen rfl T.n_len (qa_cons (qv 0) qa_nil)) (qgint T.i_PAIR)) (qw_or1 (qt_not (qt_truth rfl (qall rfl rfl T.n_all (qa_cons (qe_lc (own := [("one", 1)]) 1000000 (by decide) rfl sc_is_ratio_any.nd (qi_seq rfl (qv 0)) (blkOk_by (N := ["value", "one"]) (sc := defScope (top 17)) (by decide +kernel)) (by decide) (fun _ _ _ _ _ => (qg 1 sc_is_ratio_any.nd)) (fun _ _ _ _ _ => qts_nil) (fun _ _ _ _ _ => (qe_fn (o_is_whole_number T D) takes0 hr (by decide) rfl (qa_cons (qv 1) qa_nil) (lenA_cons lenA_nil) rfl))) qa_nil)))))))) (qs_one (qs_ret qe_bl)) qs_nil)
    (qs_one (qs_ret (qe_and (qcmp op_gt (fCmpI_ok _) (qe_ix rfl (qv 0) qe_int (fun _ _ => rfl)) qe_int) (qe_one (qcmp (op_eqK rfl (u64 hr)) fEq_ok (qgcd T.f_gcd (qa_cons (qe_ix rfl (qv 0) qe_int (fun _ _ => rfl)) (qa_cons (qe_ix rfl (qv 0) qe_int (fun _ _ => rfl)) qa_nil))) qe_int))))))
theorem o_is_ratio_any (T : Tx K mg base Tb) (D : Dx K mg) : Ok P w K mg base (CW K Tb) 2 "is_ratio_any" ["value"] m_is_ratio_any := by
  obtain ⟨fd, F, hm⟩ := D.d_is_ratio_any
  exact ⟨fd, k_is_ratio_any T D F, F.bindsN fun _ _ _ _ _ _ us hl => match us, hl with | [_], _ => rfl, F.kp, hm⟩
theorem sc_is_number_any : FnScope ["value"] ["value"] (defScope (top 18)) := ⟨rfl, rfl, rfl, by decide +kernel, rfl, by decide +kernel, by decide +kernel⟩
theorem k_is_number_any (T : Tx K mg base Tb) (D : Dx K mg) {fd : FuncData} (F : FunD K "is_number_any" "is_number_any" (defArgs (top 18)) (defBody (top 18)) (defScope (top 18)) [] [] (He.ga K "is_number_any") fd) : FnOk P w K mg base (L2.CX P w) 3 (He.ga K "is_number_any") fd ["value"] (spI (CW K Tb) 1 m_is_number_any) := by
  refine qf_def F sc_is_number_any fun cdv A outer s H E hr => ?_
  have tk := takes_of (X := (cxOf (L2.CX P w) P w K mg base ["value"] "is_number_any" (defScope (top 18)) (He.ga K "is_number_any") cdv A outer s H E)) (E := E) rfl rfl rfl rfl
  show PSs _ _ (tS (CW K Tb) b_is_number_any _)
  exact (qs_one (qs_ret (qe_or (qe_fn (o_is_whole_number T D) tk hr (by decide) rfl (qa_cons (qv 0) qa_nil) (lenA_cons lenA_nil) rfl) (qe_one (qe_fn (o_is_ratio_any T D) tk hr (by decide) rfl (qa_cons (qv 0) qa_nil) (lenA_cons lenA_nil) rfl)))))
theorem o_is_number_any (T : Tx K mg base Tb) (D : Dx K mg) : Ok P w K mg base (CW K Tb) 3 "is_number_any" ["value"] m_is_number_any := by
  obtain ⟨fd, F, hm⟩ := D.d_is_number_any
  exact ⟨fd, k_is_number_any T D F, F.bindsN fun _ _ _ _ _ _ us hl => match us, hl with | [_], _ => rfl, F.kp, hm⟩
theorem sc_is_number_in : FnScope ["value", "one"] ["value"] (defScope (top 19)) := ⟨rfl, rfl, rfl, by decide +kernel, rfl, by decide +kernel, by decide +kernel⟩
theorem k_is_number_in (T : Tx K mg base Tb) (D : Dx K mg) {fd : FuncData} (F : FunD K "is_number_in" "is_number_in" (defArgs (top 19)) (defBody (top 19)) (defScope (top 19)) [] [] (He.ga K "is_number_in") fd) : FnOk P w K mg base (L2.CX P w) 3 (He.ga K "is_number_in") fd ["value"] (spI (CW K Tb) 1 m_is_number_in) := by
  refine qf_def F sc_is_number_in fun cdv A outer s H E hr => ?_
  have tk := takes_of (X := (cxOf (L2.CX P w) P w K mg base ["value", "one"] "is_number_in" (defScope (top 19)) (He.ga K "is_number_in") cdv A outer s H E)) (E := E) rfl rfl rfl rfl
  show PSs _ _ (tS (CW K Tb) b_is_number_in _)
  exact (qs_one (qs_ret (qe_or (qe_fn (o_is_integer T D) tk hr (by decide) rfl (qa_cons (qv 0) qa_nil) (lenA_cons lenA_nil) rfl) (qe_one (qe_and (qe_fn (o_is_ratio_any T D) tk hr (by decide) rfl (qa_cons (qv 0) qa_nil) (lenA_cons lenA_nil) rfl) (qe_one (qall rfl rfl T.n_all (qa_cons (qe_lc (own := [("one", 1)]) 1000000 (by decide) rfl sc_is_number_in.nd (qi_seq rfl (qv 0)) (blkOk_by (N := ["value", "one"]) (sc := defScope (top 19)) (by decide +kernel)) (by decide) (fun _ _ _ _ _ => (qg 1 sc_is_number_in.nd)) (fun _ _ _ _ _ => qts_nil) (fun _ _ _ _ _ => (qe_fn (o_is_integer T D) takes0 hr (by decide) rfl (qa_cons (qv 1) qa_nil) (lenA_cons lenA_nil) rfl))) qa_nil))))))))
theorem o_is_number_in (T : Tx K mg base Tb) (D : Dx K mg) : Ok P w K mg base (CW K Tb) 3 "is_number_in" ["value"] m_is_number_in := by
  obtain ⟨fd, F, hm⟩ := D.d_is_number_in
  exact ⟨fd, k_is_number_in T D F, F.bindsN fun _ _ _ _ _ _ us hl => match us, hl with | [_], _ => rfl, F.kp, hm⟩
theorem sc_power_of : FnScope ["base", "count", "found", "square", "left"] ["base", "count"] (defScope (top 20)) := ⟨rfl, rfl, rfl, by decide +kernel, rfl, by decide +kernel, by decide +kernel⟩
theorem k_power_of (T : Tx K mg base Tb) (D : Dx K mg) {fd : FuncData} (F : FunD K "power_of" "power_of" (defArgs (top 20)) (defBody (top 20)) (defScope (top 20)) [] [] (He.ga K "power_of") fd) : FnOk P w K mg base (L2.CX P w) 1 (He.ga K "power_of") fd ["base", "count"] (spI (CW K Tb) 2 m_power_of) := by
  refine qf_def F sc_power_of fun cdv A outer s H E hr => ?_
  have tk := takes_of (X := (cxOf (L2.CX P w) P w K mg base ["base", "count", "found", "square", "left"] "power_of" (defScope (top 20)) (He.ga K "power_of") cdv A outer s H E)) (E := E) rfl rfl rfl rfl
  show PSs _ _ (tS (CW K Tb) b_power_of _)
  exact (qs_cons (qs_par3 (i := 2) (j := 3) (l := 4) rfl sc_power_of.nd rfl rfl rfl (by decide) (by decide) (by decide) rfl rfl rfl (qa_cons qe_int (qa_cons (qv 0) (qa_cons (qv 1) qa_nil))) rfl)
    (qs_cons (qs_while 100000 (passes_of rfl) (qtcmp op_gt (fCmpI_ok _) (qv 4) qe_int) (qs_cons (qs_if (qtcmp (op_eqK rfl (u64 hr)) fEq_ok (qe_mod (qv 4) qe_int) qe_int) (qs_one (qset 2 sc_power_of.nd (qe_mul rfl (qv 2) (qv 3)))) qs_nil)
    (qs_cons (qset 4 sc_power_of.nd (qe_div (qv 4) qe_int))
    (qs_one (qset 3 sc_power_of.nd (qe_if (qtcmp op_gt (fCmpI_ok _) (qv 4) qe_int) (qe_mul rfl (qv 3) (qv 3)) (qv 3)))))))
    (qs_one (qs_ret (qv 2)))))
theorem o_power_of (T : Tx K mg base Tb) (D : Dx K mg) : Ok P w K mg base (CW K Tb) 1 "power_of" ["base", "count"] m_power_of := by
  obtain ⟨fd, F, hm⟩ := D.d_power_of
  exact ⟨fd, k_power_of T D F, F.bindsN fun _ _ _ _ _ _ us hl => match us, hl with | [_, _], _ => rfl, F.kp, hm⟩
theorem sc_exponent_in : FnScope ["prime", "integer", "found"] ["prime", "integer"] (defScope (top 21)) := ⟨rfl, rfl, rfl, by decide +kernel, rfl, by decide +kernel, by decide +kernel⟩
theorem k_exponent_in (T : Tx K mg base Tb) (D : Dx K mg) {fd : FuncData} (F : FunD K "exponent_in" "exponent_in" (defArgs (top 21)) (defBody (top 21)) (defScope (top 21)) [] [] (He.ga K "exponent_in") fd) : FnOk P w K mg base (L2.CX P w) 1 (He.ga K "exponent_in") fd ["prime", "integer"] (spI (CW K Tb) 2 m_exponent_in) := by
  refine qf_def F sc_exponent_in fun cdv A outer s H E hr => ?_
  have tk := takes_of (X := (cxOf (L2.CX P w) P w K mg base ["prime", "integer", "found"] "exponent_in" (defScope (top 21)) (He.ga K "exponent_in") cdv A outer s H E)) (E := E) rfl rfl rfl rfl
  show PSs _ _ (tS (CW K Tb) b_exponent_in _)
  exact (qs_cons (qset 2 sc_exponent_in.nd qe_int)
    (qs_cons (qs_while 100000 (passes_of rfl) (qtcmp (op_eqK rfl (u64 hr)) fEq_ok (qe_mod (qv 1) (qv 0)) qe_int) (qs_cons (qaug 1 sc_exponent_in.nd (ip_of iop_fdiv) fDivS_ok (qv 0))
    (qs_one (qaug 2 sc_exponent_in.nd (ip_of iop_add) fAddI_ok qe_int))))
    (qs_one (qs_ret (qv 2)))))
theorem o_exponent_in (T : Tx K mg base Tb) (D : Dx K mg) : Ok P w K mg base (CW K Tb) 1 "exponent_in" ["prime", "integer"] m_exponent_in := by
  obtain ⟨fd, F, hm⟩ := D.d_exponent_in
  exact ⟨fd, k_exponent_in T D F, F.bindsN fun _ _ _ _ _ _ us hl => match us, hl with | [_, _], _ => rfl, F.kp, hm⟩
theorem sc_pair_of : FnScope ["number"] ["number"] (defScope (top 22)) := ⟨rfl, rfl, rfl, by decide +kernel, rfl, by decide +kernel, by decide +kernel⟩
theorem k_pair_of (T : Tx K mg base Tb) (D : Dx K mg) {fd : FuncData} (F : FunD K "pair_of" "pair_of" (defArgs (top 22)) (defBody (top 22)) (defScope (top 22)) [] [] (He.ga K "pair_of") fd) : FnOk P w K mg base (L2.CX P w) 1 (He.ga K "pair_of") fd ["number"] (spI (CW K Tb) 1 m_pair_of) := by
  refine qf_def F sc_pair_of fun cdv A outer s H E hr => ?_
  have tk := takes_of (X := (cxOf (L2.CX P w) P w K mg base ["number"] "pair_of" (defScope (top 22)) (He.ga K "pair_of") cdv A outer s H E)) (E := E) rfl rfl rfl rfl
  show PSs _ _ (tS (CW K Tb) b_pair_of _)
  exact (qs_one (qs_ret (qe_if (qt_truth rfl (qisinst rfl T.n_isinstance (qa_cons (qv 0) (qa_cons (qe_ty (t := .tuple) rfl T.n_tuple (by decide +kernel)) qa_nil)))) (qv 0) (qe_tup (qa_cons (qv 0) (qa_cons qe_int qa_nil))))))
theorem o_pair_of (T : Tx K mg base Tb) (D : Dx K mg) : Ok P w K mg base (CW K Tb) 1 "pair_of" ["number"] m_pair_of := by
  obtain ⟨fd, F, hm⟩ := D.d_pair_of
  exact ⟨fd, k_pair_of T D F, F.bindsN fun _ _ _ _ _ _ us hl => match us, hl with | [_], _ => rfl, F.kp, hm⟩
theorem sc_value_in : FnScope ["prime", "number", "top", "bottom"] ["prime", "number"] (defScope (top 23)) := ⟨rfl, rfl, rfl, by decide +kernel, rfl, by decide +kernel, by decide +kernel⟩
theorem k_value_in (T : Tx K mg base Tb) (D : Dx K mg) {fd : FuncData} (F : FunD K "value_in" "value_in" (defArgs (top 23)) (defBody (top 23)) (defScope (top 23)) [] [] (He.ga K "value_in") fd) : FnOk P w K mg base (L2.CX P w) 2 (He.ga K "value_in") fd ["prime", "number"] (spI (CW K Tb) 2 m_value_in) := by
  refine qf_def F sc_value_in fun cdv A outer s H E hr => ?_
  have tk := takes_of (X := (cxOf (L2.CX P w) P w K mg base ["prime", "number", "top", "bottom"] "value_in" (defScope (top 23)) (He.ga K "value_in") cdv A outer s H E)) (E := E) rfl rfl rfl rfl
  show PSs _ _ (tS (CW K Tb) b_value_in _)
  exact (qs_cons (qs_asg (qe_fn (o_pair_of T D) tk hr (by decide) rfl (qa_cons (qv 1) qa_nil) (lenA_cons lenA_nil) rfl) (qg_tup rfl rfl (qgs_cons (qg 2 sc_value_in.nd) (qgs_cons (qg 3 sc_value_in.nd) qgs_nil)) rfl))
    (qs_one (qs_ret (qe_if (qtcmp (op_eqK rfl (u64 hr)) fEq_ok (qv 2) qe_int) qe_non (qe_sub (qe_fn (o_exponent_in T D) tk hr (by decide) rfl (qa_cons (qv 0) (qa_cons (qv 2) qa_nil)) (lenA_cons (lenA_cons lenA_nil)) rfl) (qe_fn (o_exponent_in T D) tk hr (by decide) rfl (qa_cons (qv 0) (qa_cons (qv 3) qa_nil)) (lenA_cons (lenA_cons lenA_nil)) rfl))))))
theorem o_value_in (T : Tx K mg base Tb) (D : Dx K mg) : Ok P w K mg base (CW K Tb) 2 "value_in" ["prime", "number"] m_value_in := by
  obtain ⟨fd, F, hm⟩ := D.d_value_in
  exact ⟨fd, k_value_in T D F, F.bindsN fun _ _ _ _ _ _ us hl => match us, hl with | [_, _], _ => rfl, F.kp, hm⟩
theorem sc_undone_in : FnScope ["number", "modulus", "here", "there", "one", "other", "factor"] ["number", "modulus"] (defScope (top 24)) := ⟨rfl, rfl, rfl, by decide +kernel, rfl, by decide +kernel, by decide +kernel⟩
theorem k_undone_in (T : Tx K mg base Tb) (D : Dx K mg) {fd : FuncData} (F : FunD K "undone_in" "undone_in" (defArgs (top 24)) (defBody (top 24)) (defScope (top 24)) [] [] (He.ga K "undone_in") fd) : FnOk P w K mg base (L2.CX P w) 1 (He.ga K "undone_in") fd ["number", "modulus"] (spI (CW K Tb) 2 m_undone_in) := by
  refine qf_def F sc_undone_in fun cdv A outer s H E hr => ?_
  have tk := takes_of (X := (cxOf (L2.CX P w) P w K mg base ["number", "modulus", "here", "there", "one", "other", "factor"] "undone_in" (defScope (top 24)) (He.ga K "undone_in") cdv A outer s H E)) (E := E) rfl rfl rfl rfl
  show PSs _ _ (tS (CW K Tb) b_undone_in _)
  exact (qs_cons (qs_asg (qe_tup (qa_cons (qe_mod (qv 0) (qv 1)) (qa_cons (qv 1) (qa_cons qe_int (qa_cons qe_int qa_nil))))) (qg_tup rfl rfl (qgs_cons (qg 2 sc_undone_in.nd) (qgs_cons (qg 3 sc_undone_in.nd) (qgs_cons (qg 4 sc_undone_in.nd) (qgs_cons (qg 5 sc_undone_in.nd) qgs_nil)))) rfl))
    (qs_cons (qs_while 100000 (passes_of rfl) (qtcmp (op_neK rfl (u64 hr)) fNe_ok (qv 3) qe_int) (qs_cons (qset 6 sc_undone_in.nd (qe_div (qv 2) (qv 3)))
    (qs_one (qs_asg (qe_tup (qa_cons (qv 3) (qa_cons (qe_sub (qv 2) (qe_mul rfl (qv 6) (qv 3))) (qa_cons (qv 5) (qa_cons (qe_sub (qv 4) (qe_mul rfl (qv 6) (qv 5))) qa_nil))))) (qg_tup rfl rfl (qgs_cons (qg 2 sc_undone_in.nd) (qgs_cons (qg 3 sc_undone_in.nd) (qgs_cons (qg 4 sc_undone_in.nd) (qgs_cons (qg 5 sc_undone_in.nd) qgs_nil)))) rfl)))))
    (qs_one (qs_ret (qe_mod (qv 4) (qv 1))))))
theorem o_undone_in (T : Tx K mg base Tb) (D : Dx K mg) : Ok P w K mg base (CW K Tb) 1 "undone_in" ["number", "modulus"] m_undone_in := by
  obtain ⟨fd, F, hm⟩ := D.d_undone_in
  exact ⟨fd, k_undone_in T D F, F.bindsN fun _ _ _ _ _ _ us hl => match us, hl with | [_, _], _ => rfl, F.kp, hm⟩
theorem sc_unit_in : FnScope ["prime", "number", "top", "bottom", "above", "below"] ["prime", "number"] (defScope (top 25)) := ⟨rfl, rfl, rfl, by decide +kernel, rfl, by decide +kernel, by decide +kernel⟩
theorem k_unit_in (T : Tx K mg base Tb) (D : Dx K mg) {fd : FuncData} (F : FunD K "unit_in" "unit_in" (defArgs (top 25)) (defBody (top 25)) (defScope (top 25)) [] [] (He.ga K "unit_in") fd) : FnOk P w K mg base (L2.CX P w) 2 (He.ga K "unit_in") fd ["prime", "number"] (spI (CW K Tb) 2 m_unit_in) := by
  refine qf_def F sc_unit_in fun cdv A outer s H E hr => ?_
  have tk := takes_of (X := (cxOf (L2.CX P w) P w K mg base ["prime", "number", "top", "bottom", "above", "below"] "unit_in" (defScope (top 25)) (He.ga K "unit_in") cdv A outer s H E)) (E := E) rfl rfl rfl rfl
  show PSs _ _ (tS (CW K Tb) b_unit_in _)
  exact (qs_cons (qs_asg (qe_fn (o_pair_of T D) tk hr (by decide) rfl (qa_cons (qv 1) qa_nil) (lenA_cons lenA_nil) rfl) (qg_tup rfl rfl (qgs_cons (qg 2 sc_unit_in.nd) (qgs_cons (qg 3 sc_unit_in.nd) qgs_nil)) rfl))
    (qs_cons (qs_par (i := 4) (j := 5) rfl sc_unit_in.nd rfl rfl (by decide) rfl rfl (qa_cons (qe_fn (o_power_of T D) tk hr (by decide) rfl (qa_cons (qv 0) (qa_cons (qe_fn (o_exponent_in T D) tk hr (by decide) rfl (qa_cons (qv 0) (qa_cons (qv 2) qa_nil)) (lenA_cons (lenA_cons lenA_nil)) rfl) qa_nil)) (lenA_cons (lenA_cons lenA_nil)) rfl) (qa_cons (qe_fn (o_power_of T D) tk hr (by decide) rfl (qa_cons (qv 0) (qa_cons (qe_fn (o_exponent_in T D) tk hr (by decide) rfl (qa_cons (qv 0) (qa_cons (qv 3) qa_nil)) (lenA_cons (lenA_cons lenA_nil)) rfl) qa_nil)) (lenA_cons (lenA_cons lenA_nil)) rfl) qa_nil)) rfl)
    (qs_one (qs_ret (qe_tup (qa_cons (qe_div (qv 2) (qv 4)) (qa_cons (qe_div (qv 3) (qv 5)) qa_nil)))))))
theorem o_unit_in (T : Tx K mg base Tb) (D : Dx K mg) : Ok P w K mg base (CW K Tb) 2 "unit_in" ["prime", "number"] m_unit_in := by
  obtain ⟨fd, F, hm⟩ := D.d_unit_in
  exact ⟨fd, k_unit_in T D F, F.bindsN fun _ _ _ _ _ _ us hl => match us, hl with | [_, _], _ => rfl, F.kp, hm⟩
theorem sc_rest_in : FnScope ["prime", "number", "level", "top", "bottom", "modulus"] ["prime", "number", "level"] (defScope (top 26)) := ⟨rfl, rfl, rfl, by decide +kernel, rfl, by decide +kernel, by decide +kernel⟩
theorem k_rest_in (T : Tx K mg base Tb) (D : Dx K mg) {fd : FuncData} (F : FunD K "rest_in" "rest_in" (defArgs (top 26)) (defBody (top 26)) (defScope (top 26)) [] [] (He.ga K "rest_in") fd) : FnOk P w K mg base (L2.CX P w) 2 (He.ga K "rest_in") fd ["prime", "number", "level"] (spI (CW K Tb) 3 m_rest_in) := by
  refine qf_def F sc_rest_in fun cdv A outer s H E hr => ?_
  have tk := takes_of (X := (cxOf (L2.CX P w) P w K mg base ["prime", "number", "level", "top", "bottom", "modulus"] "rest_in" (defScope (top 26)) (He.ga K "rest_in") cdv A outer s H E)) (E := E) rfl rfl rfl rfl
  show PSs _ _ (tS (CW K Tb) b_rest_in _)
  exact (qs_cons (qs_asg (qe_fn (o_pair_of T D) tk hr (by decide) rfl (qa_cons (qv 1) qa_nil) (lenA_cons lenA_nil) rfl) (qg_tup rfl rfl (qgs_cons (qg 3 sc_rest_in.nd) (qgs_cons (qg 4 sc_rest_in.nd) qgs_nil)) rfl))
    (qs_cons (qset 5 sc_rest_in.nd (qe_fn (o_power_of T D) tk hr (by decide) rfl (qa_cons (qv 0) (qa_cons (qv 2) qa_nil)) (lenA_cons (lenA_cons lenA_nil)) rfl))
    (qs_one (qs_ret (qe_mod (qe_mul rfl (qv 3) (qe_fn (o_undone_in T D) tk hr (by decide) rfl (qa_cons (qv 4) (qa_cons (qv 5) qa_nil)) (lenA_cons (lenA_cons lenA_nil)) rfl)) (qv 5))))))
theorem o_rest_in (T : Tx K mg base Tb) (D : Dx K mg) : Ok P w K mg base (CW K Tb) 2 "rest_in" ["prime", "number", "level"] m_rest_in := by
  obtain ⟨fd, F, hm⟩ := D.d_rest_in
  exact ⟨fd, k_rest_in T D F, F.bindsN fun _ _ _ _ _ _ us hl => match us, hl with | [_, _, _], _ => rfl, F.kp, hm⟩
theorem sc_power_level : FnScope ["prime", "exponent"] ["prime", "exponent"] (defScope (top 27)) := ⟨rfl, rfl, rfl, by decide +kernel, rfl, by decide +kernel, by decide +kernel⟩
theorem k_power_level (T : Tx K mg base Tb) (D : Dx K mg) {fd : FuncData} (F : FunD K "power_level" "power_level" (defArgs (top 27)) (defBody (top 27)) (defScope (top 27)) [] [] (He.ga K "power_level") fd) : FnOk P w K mg base (L2.CX P w) 2 (He.ga K "power_level") fd ["prime", "exponent"] (spI (CW K Tb) 2 m_power_level) := by
  refine qf_def F sc_power_level fun cdv A outer s H E hr => ?_
  have tk := takes_of (X := (cxOf (L2.CX P w) P w K mg base ["prime", "exponent"] "power_level" (defScope (top 27)) (He.ga K "power_level") cdv A outer s H E)) (E := E) rfl rfl rfl rfl
  show PSs _ _ (tS (CW K Tb) b_power_level _)
  exact (qs_one (qs_ret (qe_add rfl (qe_mul rfl qe_int (qe_fn (o_exponent_in T D) tk hr (by decide) rfl (qa_cons (qv 0) (qa_cons (qv 1) qa_nil)) (lenA_cons (lenA_cons lenA_nil)) rfl)) qe_int)))
theorem o_power_level (T : Tx K mg base Tb) (D : Dx K mg) : Ok P w K mg base (CW K Tb) 2 "power_level" ["prime", "exponent"] m_power_level := by
  obtain ⟨fd, F, hm⟩ := D.d_power_level
  exact ⟨fd, k_power_level T D F, F.bindsN fun _ _ _ _ _ _ us hl => match us, hl with | [_, _], _ => rfl, F.kp, hm⟩
theorem sc_rest_root : FnScope ["prime", "unit", "exponent", "level", "modulus", "goal", "some", "one"] ["prime", "unit", "exponent", "level"] (defScope (top 28)) := ⟨rfl, rfl, rfl, by decide +kernel, rfl, by decide +kernel, by decide +kernel⟩
theorem k_rest_root (T : Tx K mg base Tb) (D : Dx K mg) {fd : FuncData} (F : FunD K "rest_root" "rest_root" (defArgs (top 28)) (defBody (top 28)) (defScope (top 28)) [] [] (He.ga K "rest_root") fd) : FnOk P w K mg base (L2.CX P w) 3 (He.ga K "rest_root") fd ["prime", "unit", "exponent", "level"] (spI (CW K Tb) 4 m_rest_root) := by
  obtain ⟨c, PT, hc, TB, hmT, hu⟩ := T.x_rest_root
  refine qf_defT F (code_of F hc) sc_rest_root fun A outer s H E hr => ?_
  have hT : GxT (cxOf (L2.CX P w) P w K mg base ["prime", "unit", "exponent", "level", "modulus", "goal", "some", "one"] "rest_root" (defScope (top 28)) (He.ga K "rest_root") (.ref c) A outer s H E) (CW K Tb) (gq "rest_root") := ⟨c, PT, TB, rfl, hmT, hu⟩
  have tk := takes_of (X := (cxOf (L2.CX P w) P w K mg base ["prime", "unit", "exponent", "level", "modulus", "goal", "some", "one"] "rest_root" (defScope (top 28)) (He.ga K "rest_root") (.ref c) A outer s H E)) (E := E) rfl rfl rfl rfl
  show PSs _ _ (tS (CW K Tb) b_rest_root _)
  exact (qs_cons (qset 4 sc_rest_root.nd (qe_fn (o_power_of T D) tk hr (by decide) rfl (qa_cons (qv 0) (qa_cons (qv 3) qa_nil)) (lenA_cons (lenA_cons lenA_nil)) rfl))
    (qs_cons (qset 5 sc_rest_root.nd (qe_fn (o_rest_in T D) tk hr (by decide) rfl (qa_cons (qv 0) (qa_cons (qv 1) (qa_cons (qv 3) qa_nil))) (lenA_cons (lenA_cons (lenA_cons lenA_nil))) rfl))
    (qs_cons (qs_setLc (own := [("one", 7)]) 1000000 (by decide) rfl sc_rest_root.nd rfl rfl (sw_true rfl rfl rfl (by decide +kernel)) (qi_range2 rfl T.n_range (qa_cons qe_int (qa_cons (qv 4) qa_nil)) (hn := (lenA_cons (lenA_cons lenA_nil)))) (blkOk_by (N := ["prime", "unit", "exponent", "level", "modulus", "goal", "some", "one"]) (sc := defScope (top 28)) (by decide +kernel)) (by decide) (fun _ _ _ _ _ => (qg 7 sc_rest_root.nd)) (fun _ _ _ _ _ => (qts_one (qtcmp (op_neK rfl (u64 hr)) fNe_ok (qe_mod (qv 7) (qv 0)) qe_int))) (fun _ _ _ _ _ => (qv 7)))
    (qs_one (qs_ret (qe_next (own := [("one", 7)]) 1000000 rfl sc_rest_root.nd hr rfl T.n_next hT (qi_seq rfl (qv 6)) (gxS_by (N := ["prime", "unit", "exponent", "level", "modulus", "goal", "some", "one"]) (sc := defScope (top 28)) (by decide +kernel)) (by decide) (fun _ _ _ _ _ hr => (qg 7 sc_rest_root.nd)) (fun _ _ _ _ _ hr => (qts_one (qtcmp (op_eqK rfl (u64 hr)) fEq_ok (qe_mod (qe_fn (o_power_of T D) takes0 hr (by decide) rfl (qa_cons (qv 7) (qa_cons (qv 2) qa_nil)) (lenA_cons (lenA_cons lenA_nil)) rfl) (qv 4)) (qv 5)))) (fun _ _ _ _ _ hr => (qv 7))))))))
theorem o_rest_root (T : Tx K mg base Tb) (D : Dx K mg) : Ok P w K mg base (CW K Tb) 3 "rest_root" ["prime", "unit", "exponent", "level"] m_rest_root := by
  obtain ⟨fd, F, hm⟩ := D.d_rest_root
  exact ⟨fd, k_rest_root T D F, F.bindsN fun _ _ _ _ _ _ us hl => match us, hl with | [_, _, _, _], _ => rfl, F.kp, hm⟩
theorem sc_power_paper_in : FnScope ["prime", "number", "exponent", "value", "level", "found", "size", "modulus"] ["prime", "number", "exponent"] (defScope (top 29)) := ⟨rfl, rfl, rfl, by decide +kernel, rfl, by decide +kernel, by decide +kernel⟩
theorem k_power_paper_in (T : Tx K mg base Tb) (D : Dx K mg) {fd : FuncData} (F : FunD K "power_paper_in" "power_paper_in" (defArgs (top 29)) (defBody (top 29)) (defScope (top 29)) [] [] (He.ga K "power_paper_in") fd) : FnOk P w K mg base (L2.CX P w) 4 (He.ga K "power_paper_in") fd ["prime", "number", "exponent"] (spI (CW K Tb) 3 m_power_paper_in) := by
  refine qf_def F sc_power_paper_in fun cdv A outer s H E hr => ?_
  have tk := takes_of (X := (cxOf (L2.CX P w) P w K mg base ["prime", "number", "exponent", "value", "level", "found", "size", "modulus"] "power_paper_in" (defScope (top 29)) (He.ga K "power_paper_in") cdv A outer s H E)) (E := E) rfl rfl rfl rfl
  show PSs _ _ (tS (CW K Tb) b_power_paper_in _)
  exact (qs_cons (qset 3 sc_power_paper_in.nd (qe_fn (o_value_in T D) tk hr (by decide) rfl (qa_cons (qv 0) (qa_cons (qv 1) qa_nil)) (lenA_cons (lenA_cons lenA_nil)) rfl))
    (qs_cons (qs_if (qtcmp (op_neK rfl (u64 hr)) fNe_ok (qe_mod (qv 3) (qv 2)) qe_int) (qs_one (qs_ret (qgtupS T.g_VALUE T.t_VALUE rfl))) qs_nil)
    (qs_cons (qset 4 sc_power_paper_in.nd (qe_fn (o_power_level T D) tk hr (by decide) rfl (qa_cons (qv 0) (qa_cons (qv 2) qa_nil)) (lenA_cons (lenA_cons lenA_nil)) rfl))
    (qs_cons (qs_par (i := 5) (j := 6) rfl sc_power_paper_in.nd rfl rfl (by decide) rfl rfl (qa_cons (qe_fn (o_rest_root T D) tk hr (by decide) rfl (qa_cons (qv 0) (qa_cons (qe_fn (o_unit_in T D) tk hr (by decide) rfl (qa_cons (qv 0) (qa_cons (qv 1) qa_nil)) (lenA_cons (lenA_cons lenA_nil)) rfl) (qa_cons (qv 2) (qa_cons (qv 4) qa_nil)))) (lenA_cons (lenA_cons (lenA_cons (lenA_cons lenA_nil)))) rfl) (qa_cons (qe_div (qv 3) (qv 2)) qa_nil)) rfl)
    (qs_cons (qs_if (qtcmp op_isN fIsN_ok (qv 5) qe_non) (qs_one (qs_ret (qe_tup (qa_cons (qgstr T.s_RESTS) (qa_cons (qv 4) qa_nil))))) qs_nil)
    (qs_cons (qset 7 sc_power_paper_in.nd (qe_fn (o_power_of T D) tk hr (by decide) rfl (qa_cons (qv 0) (qa_cons (qv 4) qa_nil)) (lenA_cons (lenA_cons lenA_nil)) rfl))
    (qs_cons (qset 5 sc_power_paper_in.nd (qe_if (qtcmp op_gt (fCmpI_ok _) (qe_mul rfl qe_int (qv 5)) (qv 7)) (qe_sub (qv 5) (qv 7)) (qv 5)))
    (qs_one (qs_ret (qe_tup (qa_cons (qgstr T.s_ROOT) (qa_cons (qe_if (qtcmp op_ge (fCmpI_ok _) (qv 6) qe_int) (qe_mul rfl (qv 5) (qe_fn (o_power_of T D) tk hr (by decide) rfl (qa_cons (qv 0) (qa_cons (qv 6) qa_nil)) (lenA_cons (lenA_cons lenA_nil)) rfl)) (qe_tup (qa_cons (qv 5) (qa_cons (qe_fn (o_power_of T D) tk hr (by decide) rfl (qa_cons (qv 0) (qa_cons (qe_neg (qv 6)) qa_nil)) (lenA_cons (lenA_cons lenA_nil)) rfl) qa_nil)))) qa_nil))))))))))))
theorem o_power_paper_in (T : Tx K mg base Tb) (D : Dx K mg) : Ok P w K mg base (CW K Tb) 4 "power_paper_in" ["prime", "number", "exponent"] m_power_paper_in := by
  obtain ⟨fd, F, hm⟩ := D.d_power_paper_in
  exact ⟨fd, k_power_paper_in T D F, F.bindsN fun _ _ _ _ _ _ us hl => match us, hl with | [_, _, _], _ => rfl, F.kp, hm⟩
theorem sc_is_power_root_in : FnScope ["prime", "number", "exponent", "value", "top", "bottom", "above", "below", "made", "due"] ["prime", "number", "exponent", "value"] (defScope (top 30)) := ⟨rfl, rfl, rfl, by decide +kernel, rfl, by decide +kernel, by decide +kernel⟩
theorem k_is_power_root_in (T : Tx K mg base Tb) (D : Dx K mg) {fd : FuncData} (F : FunD K "is_power_root_in" "is_power_root_in" (defArgs (top 30)) (defBody (top 30)) (defScope (top 30)) [] [] (He.ga K "is_power_root_in") fd) : FnOk P w K mg base (L2.CX P w) 4 (He.ga K "is_power_root_in") fd ["prime", "number", "exponent", "value"] (spI (CW K Tb) 4 m_is_power_root_in) := by
  refine qf_def F sc_is_power_root_in fun cdv A outer s H E hr => ?_
  have tk := takes_of (X := (cxOf (L2.CX P w) P w K mg base ["prime", "number", "exponent", "value", "top", "bottom", "above", "below", "made", "due"] "is_power_root_in" (defScope (top 30)) (He.ga K "is_power_root_in") cdv A outer s H E)) (E := E) rfl rfl rfl rfl
  show PSs _ _ (tS (CW K Tb) b_is_power_root_in _)
  exact (qs_cons (qs_if (qt_w (qw_or (qt_not (qt_truth rfl (qe_fn (o_is_number_any T D) tk hr (by decide) rfl (qa_cons (qv 3) qa_nil) (lenA_cons lenA_nil) rfl))) (qw_or1 (qtcmp (op_eqK rfl (u64 hr)) fEq_ok (qe_ix rfl (qe_fn (o_pair_of T D) tk hr (by decide) rfl (qa_cons (qv 3) qa_nil) (lenA_cons lenA_nil) rfl) qe_int (fun _ _ => rfl)) qe_int)))) (qs_one (qs_ret qe_bl)) qs_nil)
    (qs_cons (qs_asg (qe_tup (qa_cons (qe_fn (o_pair_of T D) tk hr (by decide) rfl (qa_cons (qv 3) qa_nil) (lenA_cons lenA_nil) rfl) (qa_cons (qe_fn (o_pair_of T D) tk hr (by decide) rfl (qa_cons (qv 1) qa_nil) (lenA_cons lenA_nil) rfl) qa_nil))) (qg_tup rfl rfl (qgs_cons (qg_tup rfl rfl (qgs_cons (qg 4 sc_is_power_root_in.nd) (qgs_cons (qg 5 sc_is_power_root_in.nd) qgs_nil)) rfl) (qgs_cons (qg_tup rfl rfl (qgs_cons (qg 6 sc_is_power_root_in.nd) (qgs_cons (qg 7 sc_is_power_root_in.nd) qgs_nil)) rfl) qgs_nil)) rfl))
    (qs_cons (qset 8 sc_is_power_root_in.nd (qe_mul rfl (qe_fn (o_power_of T D) tk hr (by decide) rfl (qa_cons (qv 4) (qa_cons (qv 2) qa_nil)) (lenA_cons (lenA_cons lenA_nil)) rfl) (qv 7)))
    (qs_cons (qset 9 sc_is_power_root_in.nd (qe_mul rfl (qe_fn (o_power_of T D) tk hr (by decide) rfl (qa_cons (qv 5) (qa_cons (qv 2) qa_nil)) (lenA_cons (lenA_cons lenA_nil)) rfl) (qv 6)))
    (qs_cons (qs_if (qtcmp (op_eqK rfl (u64 hr)) fEq_ok (qv 8) (qv 9)) (qs_one (qs_ret qe_bl)) qs_nil)
    (qs_one (qs_ret (qcmp op_gt (fCmpI_ok _) (qe_sub (qe_fn (o_exponent_in T D) tk hr (by decide) rfl (qa_cons (qv 0) (qa_cons (qe_sub (qv 8) (qv 9)) qa_nil)) (lenA_cons (lenA_cons lenA_nil)) rfl) (qe_fn (o_exponent_in T D) tk hr (by decide) rfl (qa_cons (qv 0) (qa_cons (qv 9) qa_nil)) (lenA_cons (lenA_cons lenA_nil)) rfl)) (qe_mul rfl qe_int (qe_fn (o_exponent_in T D) tk hr (by decide) rfl (qa_cons (qv 0) (qa_cons (qv 2) qa_nil)) (lenA_cons (lenA_cons lenA_nil)) rfl))))))))))
theorem o_is_power_root_in (T : Tx K mg base Tb) (D : Dx K mg) : Ok P w K mg base (CW K Tb) 4 "is_power_root_in" ["prime", "number", "exponent", "value"] m_is_power_root_in := by
  obtain ⟨fd, F, hm⟩ := D.d_is_power_root_in
  exact ⟨fd, k_is_power_root_in T D F, F.bindsN fun _ _ _ _ _ _ us hl => match us, hl with | [_, _, _, _], _ => rfl, F.kp, hm⟩
theorem sc_is_power_paper_in : FnScope ["prime", "number", "exponent", "value", "level"] ["prime", "number", "exponent", "value"] (defScope (top 31)) := ⟨rfl, rfl, rfl, by decide +kernel, rfl, by decide +kernel, by decide +kernel⟩
theorem k_is_power_paper_in (T : Tx K mg base Tb) (D : Dx K mg) {fd : FuncData} (F : FunD K "is_power_paper_in" "is_power_paper_in" (defArgs (top 31)) (defBody (top 31)) (defScope (top 31)) [] [] (He.ga K "is_power_paper_in") fd) : FnOk P w K mg base (L2.CX P w) 5 (He.ga K "is_power_paper_in") fd ["prime", "number", "exponent", "value"] (spI (CW K Tb) 4 m_is_power_paper_in) := by
  refine qf_def F sc_is_power_paper_in fun cdv A outer s H E hr => ?_
  have tk := takes_of (X := (cxOf (L2.CX P w) P w K mg base ["prime", "number", "exponent", "value", "level"] "is_power_paper_in" (defScope (top 31)) (He.ga K "is_power_paper_in") cdv A outer s H E)) (E := E) rfl rfl rfl rfl
  show PSs _ _ (tS (CW K Tb) b_is_power_paper_in _)
  exact (qs_cons (qs_if (qt_w (qw_or (qt_not (qt_truth rfl (qisinst rfl T.n_isinstance (qa_cons (qv 3) (qa_cons (qe_ty (t := .tuple) rfl T.n_tuple (by decide +kernel)) qa_nil))))) (qw_or1 (qtcmp (op_eqK rfl (u64 hr)) fEq_ok (qv 3) (qe_tup qa_nil))))) (qs_one (qs_ret qe_bl)) qs_nil)
    (qs_cons (qs_if (qtcmp (op_eqK rfl (u64 hr)) fEq_ok (qlen rfl T.n_len (qa_cons (qv 3) qa_nil)) qe_int) (qs_one (qs_ret (qe_and (qcmp (op_eqK rfl (u64 hr)) fEq_ok (qv 3) (qgtupS T.g_VALUE T.t_VALUE rfl)) (qe_one (qcmp (op_neK rfl (u64 hr)) fNe_ok (qe_mod (qe_fn (o_value_in T D) tk hr (by decide) rfl (qa_cons (qv 0) (qa_cons (qv 1) qa_nil)) (lenA_cons (lenA_cons lenA_nil)) rfl) (qv 2)) qe_int))))) qs_nil)
    (qs_cons (qs_if (qt_w (qw_or (qtcmp (op_neK rfl (u64 hr)) fNe_ok (qlen rfl T.n_len (qa_cons (qv 3) qa_nil)) (qgint T.i_PAIR)) (qw_or1 (qt_not (qt_truth rfl (qisinst rfl T.n_isinstance (qa_cons (qe_ix rfl (qv 3) qe_int (fun _ _ => rfl)) (qa_cons (qe_ty (t := .str) rfl T.n_str (by decide +kernel)) qa_nil)))))))) (qs_one (qs_ret qe_bl)) qs_nil)
    (qs_cons (qs_if (qtcmp (op_eqK rfl (u64 hr)) fEq_ok (qe_ix rfl (qv 3) qe_int (fun _ _ => rfl)) (qgstr T.s_ROOT)) (qs_one (qs_ret (qe_fn (o_is_power_root_in T D) tk hr (by decide) rfl (qa_cons (qv 0) (qa_cons (qv 1) (qa_cons (qv 2) (qa_cons (qe_ix rfl (qv 3) qe_int (fun _ _ => rfl)) qa_nil)))) (lenA_cons (lenA_cons (lenA_cons (lenA_cons lenA_nil)))) rfl))) qs_nil)
    (qs_cons (qs_if (qt_w (qw_or (qtcmp (op_neK rfl (u64 hr)) fNe_ok (qe_ix rfl (qv 3) qe_int (fun _ _ => rfl)) (qgstr T.s_RESTS)) (qw_or1 (qt_not (qt_truth rfl (qe_fn (o_is_within T D) tk hr (by decide) rfl (qa_cons (qe_ix rfl (qv 3) qe_int (fun _ _ => rfl)) (qa_cons qe_int (qa_cons (qgint T.i_MAX_LEVEL) qa_nil))) (lenA_cons (lenA_cons (lenA_cons lenA_nil))) rfl)))))) (qs_one (qs_ret qe_bl)) qs_nil)
    (qs_cons (qset 4 sc_is_power_paper_in.nd (qmin rfl rfl T.n_min (qa_cons (qe_ix rfl (qv 3) qe_int (fun _ _ => rfl)) (qa_cons (qe_fn (o_power_level T D) tk hr (by decide) rfl (qa_cons (qv 0) (qa_cons (qv 2) qa_nil)) (lenA_cons (lenA_cons lenA_nil)) rfl) qa_nil))))
    (qs_one (qs_ret (qcmp op_isN fIsN_ok (qe_fn (o_rest_root T D) tk hr (by decide) rfl (qa_cons (qv 0) (qa_cons (qe_fn (o_unit_in T D) tk hr (by decide) rfl (qa_cons (qv 0) (qa_cons (qv 1) qa_nil)) (lenA_cons (lenA_cons lenA_nil)) rfl) (qa_cons (qv 2) (qa_cons (qv 4) qa_nil)))) (lenA_cons (lenA_cons (lenA_cons (lenA_cons lenA_nil)))) rfl) qe_non)))))))))
theorem o_is_power_paper_in (T : Tx K mg base Tb) (D : Dx K mg) : Ok P w K mg base (CW K Tb) 5 "is_power_paper_in" ["prime", "number", "exponent", "value"] m_is_power_paper_in := by
  obtain ⟨fd, F, hm⟩ := D.d_is_power_paper_in
  exact ⟨fd, k_is_power_paper_in T D F, F.bindsN fun _ _ _ _ _ _ us hl => match us, hl with | [_, _, _, _], _ => rfl, F.kp, hm⟩
theorem sc_require_prime : FnScope ["prime"] ["prime"] (defScope (top 32)) := ⟨rfl, rfl, rfl, by decide +kernel, rfl, by decide +kernel, by decide +kernel⟩
theorem k_require_prime (T : Tx K mg base Tb) (D : Dx K mg) {fd : FuncData} (F : FunD K "require_prime" "require_prime" (defArgs (top 32)) (defBody (top 32)) (defScope (top 32)) [] [] (He.ga K "require_prime") fd) : FnOk P w K mg base (L2.CX P w) 3 (He.ga K "require_prime") fd ["prime"] (spI (CW K Tb) 1 m_require_prime) := by
  refine qf_def F sc_require_prime fun cdv A outer s H E hr => ?_
  have tk := takes_of (X := (cxOf (L2.CX P w) P w K mg base ["prime"] "require_prime" (defScope (top 32)) (He.ga K "require_prime") cdv A outer s H E)) (E := E) rfl rfl rfl rfl
  show PSs _ _ (tS (CW K Tb) b_require_prime _)
  exact (qs_one (qs_if (qt_w (qw_or (qt_not (qt_truth rfl (qe_fn (o_is_integer T D) tk hr (by decide) rfl (qa_cons (qv 0) qa_nil) (lenA_cons lenA_nil) rfl))) (qw_or1 (qtcmp (op_notInK rfl (u65 hr)) fNotIn_ok (qv 0) (qgtup T.g_PRIMES T.t_PRIMES))))) (qs_one qs_stuck) qs_nil))
theorem o_require_prime (T : Tx K mg base Tb) (D : Dx K mg) : Ok P w K mg base (CW K Tb) 3 "require_prime" ["prime"] m_require_prime := by
  obtain ⟨fd, F, hm⟩ := D.d_require_prime
  exact ⟨fd, k_require_prime T D F, F.bindsN fun _ _ _ _ _ _ us hl => match us, hl with | [_], _ => rfl, F.kp, hm⟩
theorem sc_require_number : FnScope ["number"] ["number"] (defScope (top 33)) := ⟨rfl, rfl, rfl, by decide +kernel, rfl, by decide +kernel, by decide +kernel⟩
theorem k_require_number (T : Tx K mg base Tb) (D : Dx K mg) {fd : FuncData} (F : FunD K "require_number" "require_number" (defArgs (top 33)) (defBody (top 33)) (defScope (top 33)) [] [] (He.ga K "require_number") fd) : FnOk P w K mg base (L2.CX P w) 4 (He.ga K "require_number") fd ["number"] (spI (CW K Tb) 1 m_require_number) := by
  refine qf_def F sc_require_number fun cdv A outer s H E hr => ?_
  have tk := takes_of (X := (cxOf (L2.CX P w) P w K mg base ["number"] "require_number" (defScope (top 33)) (He.ga K "require_number") cdv A outer s H E)) (E := E) rfl rfl rfl rfl
  show PSs _ _ (tS (CW K Tb) b_require_number _)
  exact (qs_one (qs_if (qt_not (qt_truth rfl (qe_fn (o_is_number_in T D) tk hr (by decide) rfl (qa_cons (qv 0) qa_nil) (lenA_cons lenA_nil) rfl))) (qs_one qs_stuck) qs_nil))
theorem o_require_number (T : Tx K mg base Tb) (D : Dx K mg) : Ok P w K mg base (CW K Tb) 4 "require_number" ["number"] m_require_number := by
  obtain ⟨fd, F, hm⟩ := D.d_require_number
  exact ⟨fd, k_require_number T D F, F.bindsN fun _ _ _ _ _ _ us hl => match us, hl with | [_], _ => rfl, F.kp, hm⟩
theorem sc_require_within : FnScope ["value", "least", "most"] ["value", "least", "most"] (defScope (top 34)) := ⟨rfl, rfl, rfl, by decide +kernel, rfl, by decide +kernel, by decide +kernel⟩
theorem k_require_within (T : Tx K mg base Tb) (D : Dx K mg) {fd : FuncData} (F : FunD K "require_within" "require_within" (defArgs (top 34)) (defBody (top 34)) (defScope (top 34)) [] [] (He.ga K "require_within") fd) : FnOk P w K mg base (L2.CX P w) 3 (He.ga K "require_within") fd ["value", "least", "most"] (spI (CW K Tb) 3 m_require_within) := by
  refine qf_def F sc_require_within fun cdv A outer s H E hr => ?_
  have tk := takes_of (X := (cxOf (L2.CX P w) P w K mg base ["value", "least", "most"] "require_within" (defScope (top 34)) (He.ga K "require_within") cdv A outer s H E)) (E := E) rfl rfl rfl rfl
  show PSs _ _ (tS (CW K Tb) b_require_within _)
  exact (qs_one (qs_if (qt_not (qt_truth rfl (qe_fn (o_is_within T D) tk hr (by decide) rfl (qa_cons (qv 0) (qa_cons (qv 1) (qa_cons (qv 2) qa_nil))) (lenA_cons (lenA_cons (lenA_cons lenA_nil))) rfl))) (qs_one qs_stuck) qs_nil))
theorem o_require_within (T : Tx K mg base Tb) (D : Dx K mg) : Ok P w K mg base (CW K Tb) 3 "require_within" ["value", "least", "most"] m_require_within := by
  obtain ⟨fd, F, hm⟩ := D.d_require_within
  exact ⟨fd, k_require_within T D F, F.bindsN fun _ _ _ _ _ _ us hl => match us, hl with | [_, _, _], _ => rfl, F.kp, hm⟩
theorem sc_require_power : FnScope ["prime", "number", "exponent"] ["prime", "number", "exponent"] (defScope (top 35)) := ⟨rfl, rfl, rfl, by decide +kernel, rfl, by decide +kernel, by decide +kernel⟩
theorem k_require_power (T : Tx K mg base Tb) (D : Dx K mg) {fd : FuncData} (F : FunD K "require_power" "require_power" (defArgs (top 35)) (defBody (top 35)) (defScope (top 35)) [] [] (He.ga K "require_power") fd) : FnOk P w K mg base (L2.CX P w) 5 (He.ga K "require_power") fd ["prime", "number", "exponent"] (spI (CW K Tb) 3 m_require_power) := by
  refine qf_def F sc_require_power fun cdv A outer s H E hr => ?_
  have tk := takes_of (X := (cxOf (L2.CX P w) P w K mg base ["prime", "number", "exponent"] "require_power" (defScope (top 35)) (He.ga K "require_power") cdv A outer s H E)) (E := E) rfl rfl rfl rfl
  show PSs _ _ (tS (CW K Tb) b_require_power _)
  exact (qs_cons (qs_expr (qe_fn (o_require_prime T D) tk hr (by decide) rfl (qa_cons (qv 0) qa_nil) (lenA_cons lenA_nil) rfl))
    (qs_cons (qs_expr (qe_fn (o_require_number T D) tk hr (by decide) rfl (qa_cons (qv 1) qa_nil) (lenA_cons lenA_nil) rfl))
    (qs_cons (qs_expr (qe_fn (o_require_within T D) tk hr (by decide) rfl (qa_cons (qv 2) (qa_cons qe_int (qa_cons (qgint T.i_MAX_EXPONENT) qa_nil))) (lenA_cons (lenA_cons (lenA_cons lenA_nil))) rfl))
    (qs_one (qs_if (qtcmp (op_eqK rfl (u64 hr)) fEq_ok (qe_ix rfl (qe_fn (o_pair_of T D) tk hr (by decide) rfl (qa_cons (qv 1) qa_nil) (lenA_cons lenA_nil) rfl) qe_int (fun _ _ => rfl)) qe_int) (qs_one qs_stuck) qs_nil)))))
theorem o_require_power (T : Tx K mg base Tb) (D : Dx K mg) : Ok P w K mg base (CW K Tb) 5 "require_power" ["prime", "number", "exponent"] m_require_power := by
  obtain ⟨fd, F, hm⟩ := D.d_require_power
  exact ⟨fd, k_require_power T D F, F.bindsN fun _ _ _ _ _ _ us hl => match us, hl with | [_, _, _], _ => rfl, F.kp, hm⟩
theorem sc_power_paper : FnScope ["prime", "number", "exponent"] ["prime", "number", "exponent"] (defScope (top 36)) := ⟨rfl, rfl, rfl, by decide +kernel, rfl, by decide +kernel, by decide +kernel⟩
theorem k_power_paper (T : Tx K mg base Tb) (D : Dx K mg) {fd : FuncData} (F : FunD K "power_paper" "power_paper" (defArgs (top 36)) (defBody (top 36)) (defScope (top 36)) [] [] (He.ga K "power_paper") fd) : FnOk P w K mg base (L2.CX P w) 6 (He.ga K "power_paper") fd ["prime", "number", "exponent"] (spI (CW K Tb) 3 m_power_paper) := by
  refine qf_def F sc_power_paper fun cdv A outer s H E hr => ?_
  have tk := takes_of (X := (cxOf (L2.CX P w) P w K mg base ["prime", "number", "exponent"] "power_paper" (defScope (top 36)) (He.ga K "power_paper") cdv A outer s H E)) (E := E) rfl rfl rfl rfl
  show PSs _ _ (tS (CW K Tb) b_power_paper _)
  exact (qs_cons (qs_expr (qe_fn (o_require_power T D) tk hr (by decide) rfl (qa_cons (qv 0) (qa_cons (qv 1) (qa_cons (qv 2) qa_nil))) (lenA_cons (lenA_cons (lenA_cons lenA_nil))) rfl))
    (qs_one (qs_ret (qe_fn (o_power_paper_in T D) tk hr (by decide) rfl (qa_cons (qv 0) (qa_cons (qv 1) (qa_cons (qv 2) qa_nil))) (lenA_cons (lenA_cons (lenA_cons lenA_nil))) rfl))))
theorem o_power_paper (T : Tx K mg base Tb) (D : Dx K mg) : Ok P w K mg base (CW K Tb) 6 "power_paper" ["prime", "number", "exponent"] m_power_paper := by
  obtain ⟨fd, F, hm⟩ := D.d_power_paper
  exact ⟨fd, k_power_paper T D F, F.bindsN fun _ _ _ _ _ _ us hl => match us, hl with | [_, _, _], _ => rfl, F.kp, hm⟩
theorem sc_is_power_paper : FnScope ["prime", "number", "exponent", "value"] ["prime", "number", "exponent", "value"] (defScope (top 37)) := ⟨rfl, rfl, rfl, by decide +kernel, rfl, by decide +kernel, by decide +kernel⟩
theorem k_is_power_paper (T : Tx K mg base Tb) (D : Dx K mg) {fd : FuncData} (F : FunD K "is_power_paper" "is_power_paper" (defArgs (top 37)) (defBody (top 37)) (defScope (top 37)) [] [] (He.ga K "is_power_paper") fd) : FnOk P w K mg base (L2.CX P w) 6 (He.ga K "is_power_paper") fd ["prime", "number", "exponent", "value"] (spI (CW K Tb) 4 m_is_power_paper) := by
  refine qf_def F sc_is_power_paper fun cdv A outer s H E hr => ?_
  have tk := takes_of (X := (cxOf (L2.CX P w) P w K mg base ["prime", "number", "exponent", "value"] "is_power_paper" (defScope (top 37)) (He.ga K "is_power_paper") cdv A outer s H E)) (E := E) rfl rfl rfl rfl
  show PSs _ _ (tS (CW K Tb) b_is_power_paper _)
  exact (qs_cons (qs_expr (qe_fn (o_require_power T D) tk hr (by decide) rfl (qa_cons (qv 0) (qa_cons (qv 1) (qa_cons (qv 2) qa_nil))) (lenA_cons (lenA_cons (lenA_cons lenA_nil))) rfl))
    (qs_one (qs_ret (qe_fn (o_is_power_paper_in T D) tk hr (by decide) rfl (qa_cons (qv 0) (qa_cons (qv 1) (qa_cons (qv 2) (qa_cons (qv 3) qa_nil)))) (lenA_cons (lenA_cons (lenA_cons (lenA_cons lenA_nil)))) rfl))))
theorem o_is_power_paper (T : Tx K mg base Tb) (D : Dx K mg) : Ok P w K mg base (CW K Tb) 6 "is_power_paper" ["prime", "number", "exponent", "value"] m_is_power_paper := by
  obtain ⟨fd, F, hm⟩ := D.d_is_power_paper
  exact ⟨fd, k_is_power_paper T D F, F.bindsN fun _ _ _ _ _ _ us hl => match us, hl with | [_, _, _, _], _ => rfl, F.kp, hm⟩
theorem sc__law_dice : FnScope ["_law_script", "_law_at", "_law_cell", "_law_great", "_law_left", "_law_mixed"] ["_law_script", "_law_at"] (defScope (top 39)) := ⟨rfl, rfl, rfl, by decide +kernel, rfl, by decide +kernel, by decide +kernel⟩
theorem k__law_dice (T : Tx K mg base Tb) (D : Dx K mg) {fd : FuncData} (F : FunD K "_law_dice" "_law_dice" (defArgs (top 39)) (defBody (top 39)) (defScope (top 39)) [] [] (He.ga K "_law_dice") fd) : FnOk P w K mg base (L2.CX P w) 1 (He.ga K "_law_dice") fd ["_law_script", "_law_at"] (spI (CW K Tb) 2 m__law_dice) := by
  refine qf_def F sc__law_dice fun cdv A outer s H E hr => ?_
  have tk := takes_of (X := (cxOf (L2.CX P w) P w K mg base ["_law_script", "_law_at", "_law_cell", "_law_great", "_law_left", "_law_mixed"] "_law_dice" (defScope (top 39)) (He.ga K "_law_dice") cdv A outer s H E)) (E := E) rfl rfl rfl rfl
  show PSs _ _ (tS (CW K Tb) b__law_dice _)
  exact (qs_cons (qset 2 sc__law_dice.nd (qe_add rfl (qe_mul rfl qe_int (qv 1)) qe_int))
    (qs_cons (qs_if (qtcmp op_lt (fCmpI_ok _) (qv 1) (qlen rfl T.n_len (qa_cons (qv 0) qa_nil))) (qs_one (qset 2 sc__law_dice.nd (qe_ix rfl (qv 0) (qv 1) (fun _ _ => rfl)))) qs_nil)
    (qs_cons (qset 3 sc__law_dice.nd (qe_mod (qint  T.n_int (qa_cons (qabs  T.n_abs (qa_cons (qv 2) qa_nil)) qa_nil)) (qe_pow (qe_pow qe_int qe_int) qe_int)))
    (qs_cons (qset 4 sc__law_dice.nd (qe_div (qv 3) (qe_pow qe_int qe_int)))
    (qs_cons (qset 5 sc__law_dice.nd (qe_add rfl (qe_add rfl (qe_add rfl (qe_mul rfl (qe_mod (qv 3) qe_int) qe_int) (qe_mul rfl qe_int (qv 1))) (qe_mul rfl qe_int (qint  T.n_int (qa_cons (qcmp op_lt (fCmpI_ok _) (qv 2) qe_int) qa_nil)))) qe_int))
    (qs_one (qs_ret (qe_lst (qa_cons (qv 4) (qa_cons (qe_mod (qv 5) qe_int) (qa_cons qe_int qa_nil)))))))))))
theorem o__law_dice (T : Tx K mg base Tb) (D : Dx K mg) : Ok P w K mg base (CW K Tb) 1 "_law_dice" ["_law_script", "_law_at"] m__law_dice := by
  obtain ⟨fd, F, hm⟩ := D.d__law_dice
  exact ⟨fd, k__law_dice T D F, F.bindsN fun _ _ _ _ _ _ us hl => match us, hl with | [_, _], _ => rfl, F.kp, hm⟩
theorem sc__law_roll : FnScope ["_law_dice_here", "_law_total", "_law_size", "_law_drawn", "_law_one", "_law_two"] ["_law_dice_here", "_law_total"] (defScope (top 40)) := ⟨rfl, rfl, rfl, by decide +kernel, rfl, by decide +kernel, by decide +kernel⟩
theorem k__law_roll (T : Tx K mg base Tb) (D : Dx K mg) {fd : FuncData} (F : FunD K "_law_roll" "_law_roll" (defArgs (top 40)) (defBody (top 40)) (defScope (top 40)) [] [] (He.ga K "_law_roll") fd) : FnOk P w K mg base (L2.CX P w) 1 (He.ga K "_law_roll") fd ["_law_dice_here", "_law_total"] (spI (CW K Tb) 2 m__law_roll) := by
  refine qf_def F sc__law_roll fun cdv A outer s H E hr => ?_
  have tk := takes_of (X := (cxOf (L2.CX P w) P w K mg base ["_law_dice_here", "_law_total", "_law_size", "_law_drawn", "_law_one", "_law_two"] "_law_roll" (defScope (top 40)) (He.ga K "_law_roll") cdv A outer s H E)) (E := E) rfl rfl rfl rfl
  show PSs _ _ (tS (CW K Tb) b__law_roll _)
  exact (qs_cons (qset 2 sc__law_roll.nd (qint  T.n_int (qa_cons (qv 1) qa_nil)))
    (qs_cons (qs_if (qtcmp op_gt (fCmpI_ok _) (qe_ix rfl (qv 0) qe_int (fun _ _ => rfl)) qe_int) (qs_cons (qset 3 sc__law_roll.nd (qe_mod (qe_ix rfl (qv 0) qe_int (fun _ _ => rfl)) (qv 2)))
    (qs_cons (qs_put (qv 0) qe_int (qe_div (qe_ix rfl (qv 0) qe_int (fun _ _ => rfl)) (qv 2)))
    (qs_one (qs_ret (qint  T.n_int (qa_cons (qv 3) qa_nil)))))) qs_nil)
    (qs_cons (qs_put (qv 0) qe_int (qe_add rfl (qe_ix rfl (qv 0) qe_int (fun _ _ => rfl)) qe_int))
    (qs_cons (qset 4 sc__law_roll.nd (qe_mod (qe_add rfl (qe_ix rfl (qv 0) qe_int (fun _ _ => rfl)) (qe_mul rfl qe_int (qe_ix rfl (qv 0) qe_int (fun _ _ => rfl)))) qe_int))
    (qs_cons (qset 5 sc__law_roll.nd (qe_add rfl (qe_mul rfl (qe_mod (qe_mul rfl (qv 4) (qv 4)) qe_int) (qv 4)) (qe_mul rfl qe_int (qe_ix rfl (qv 0) qe_int (fun _ _ => rfl)))))
    (qs_cons (qset 5 sc__law_roll.nd (qe_mod (qv 5) qe_int))
    (qs_one (qs_ret (qint  T.n_int (qa_cons (qe_mod (qe_div (qv 5) qe_int) (qv 2)) qa_nil))))))))))
theorem o__law_roll (T : Tx K mg base Tb) (D : Dx K mg) : Ok P w K mg base (CW K Tb) 1 "_law_roll" ["_law_dice_here", "_law_total"] m__law_roll := by
  obtain ⟨fd, F, hm⟩ := D.d__law_roll
  exact ⟨fd, k__law_roll T D F, F.bindsN fun _ _ _ _ _ _ us hl => match us, hl with | [_, _], _ => rfl, F.kp, hm⟩
theorem sc__law_one_of : FnScope ["_law_dice_here", "_law_items"] ["_law_dice_here", "_law_items"] (defScope (top 41)) := ⟨rfl, rfl, rfl, by decide +kernel, rfl, by decide +kernel, by decide +kernel⟩
theorem k__law_one_of (T : Tx K mg base Tb) (D : Dx K mg) {fd : FuncData} (F : FunD K "_law_one_of" "_law_one_of" (defArgs (top 41)) (defBody (top 41)) (defScope (top 41)) [] [] (He.ga K "_law_one_of") fd) : FnOk P w K mg base (L2.CX P w) 2 (He.ga K "_law_one_of") fd ["_law_dice_here", "_law_items"] (spI (CW K Tb) 2 m__law_one_of) := by
  refine qf_def F sc__law_one_of fun cdv A outer s H E hr => ?_
  have tk := takes_of (X := (cxOf (L2.CX P w) P w K mg base ["_law_dice_here", "_law_items"] "_law_one_of" (defScope (top 41)) (He.ga K "_law_one_of") cdv A outer s H E)) (E := E) rfl rfl rfl rfl
  show PSs _ _ (tS (CW K Tb) b__law_one_of _)
  exact (qs_one (qs_ret (qe_ix rfl (qv 1) (qe_fn (o__law_roll T D) tk hr (by decide) rfl (qa_cons (qv 0) (qa_cons (qlen rfl T.n_len (qa_cons (qv 1) qa_nil)) qa_nil)) (lenA_cons (lenA_cons lenA_nil)) rfl) (fun _ _ => rfl))))
theorem o__law_one_of (T : Tx K mg base Tb) (D : Dx K mg) : Ok P w K mg base (CW K Tb) 2 "_law_one_of" ["_law_dice_here", "_law_items"] m__law_one_of := by
  obtain ⟨fd, F, hm⟩ := D.d__law_one_of
  exact ⟨fd, k__law_one_of T D F, F.bindsN fun _ _ _ _ _ _ us hl => match us, hl with | [_, _], _ => rfl, F.kp, hm⟩
theorem sc__law_power : FnScope ["_law_base", "_law_count", "_law_found", "_law_turn"] ["_law_base", "_law_count"] (defScope (top 42)) := ⟨rfl, rfl, rfl, by decide +kernel, rfl, by decide +kernel, by decide +kernel⟩
theorem k__law_power (T : Tx K mg base Tb) (D : Dx K mg) {fd : FuncData} (F : FunD K "_law_power" "_law_power" (defArgs (top 42)) (defBody (top 42)) (defScope (top 42)) [] [] (He.ga K "_law_power") fd) : FnOk P w K mg base (L2.CX P w) 1 (He.ga K "_law_power") fd ["_law_base", "_law_count"] (spI (CW K Tb) 2 m__law_power) := by
  refine qf_def F sc__law_power fun cdv A outer s H E hr => ?_
  have tk := takes_of (X := (cxOf (L2.CX P w) P w K mg base ["_law_base", "_law_count", "_law_found", "_law_turn"] "_law_power" (defScope (top 42)) (He.ga K "_law_power") cdv A outer s H E)) (E := E) rfl rfl rfl rfl
  show PSs _ _ (tS (CW K Tb) b__law_power _)
  exact (qs_cons (qset 2 sc__law_power.nd qe_int)
    (qs_cons (qs_for 1000000 (passes_of rfl) rfl (qi_range1 rfl T.n_range (qa_cons (qv 1) qa_nil) (hn := (lenA_cons lenA_nil))) (qg 3 sc__law_power.nd) (qs_one (qset 2 sc__law_power.nd (qe_mul rfl (qv 2) (qv 0)))))
    (qs_one (qs_ret (qv 2)))))
theorem o__law_power (T : Tx K mg base Tb) (D : Dx K mg) : Ok P w K mg base (CW K Tb) 1 "_law_power" ["_law_base", "_law_count"] m__law_power := by
  obtain ⟨fd, F, hm⟩ := D.d__law_power
  exact ⟨fd, k__law_power T D F, F.bindsN fun _ _ _ _ _ _ us hl => match us, hl with | [_, _], _ => rfl, F.kp, hm⟩
theorem sc__law_gcd : FnScope ["_law_one", "_law_other"] ["_law_one", "_law_other"] (defScope (top 43)) := ⟨rfl, rfl, rfl, by decide +kernel, rfl, by decide +kernel, by decide +kernel⟩
theorem k__law_gcd (T : Tx K mg base Tb) (D : Dx K mg) {fd : FuncData} (F : FunD K "_law_gcd" "_law_gcd" (defArgs (top 43)) (defBody (top 43)) (defScope (top 43)) [] [] (He.ga K "_law_gcd") fd) : FnOk P w K mg base (L2.CX P w) 1 (He.ga K "_law_gcd") fd ["_law_one", "_law_other"] (spI (CW K Tb) 2 m__law_gcd) := by
  refine qf_def F sc__law_gcd fun cdv A outer s H E hr => ?_
  have tk := takes_of (X := (cxOf (L2.CX P w) P w K mg base ["_law_one", "_law_other"] "_law_gcd" (defScope (top 43)) (He.ga K "_law_gcd") cdv A outer s H E)) (E := E) rfl rfl rfl rfl
  show PSs _ _ (tS (CW K Tb) b__law_gcd _)
  exact (qs_cons (qs_par (i := 0) (j := 1) rfl sc__law_gcd.nd rfl rfl (by decide) rfl rfl (qa_cons (qabs  T.n_abs (qa_cons (qv 0) qa_nil)) (qa_cons (qabs  T.n_abs (qa_cons (qv 1) qa_nil)) qa_nil)) rfl)
    (qs_cons (qs_while 100000 (passes_of rfl) (qtcmp op_gt (fCmpI_ok _) (qv 1) qe_int) (qs_one (qs_par (i := 0) (j := 1) rfl sc__law_gcd.nd rfl rfl (by decide) rfl rfl (qa_cons (qv 1) (qa_cons (qe_mod (qv 0) (qv 1)) qa_nil)) rfl)))
    (qs_one (qs_ret (qv 0)))))
theorem o__law_gcd (T : Tx K mg base Tb) (D : Dx K mg) : Ok P w K mg base (CW K Tb) 1 "_law_gcd" ["_law_one", "_law_other"] m__law_gcd := by
  obtain ⟨fd, F, hm⟩ := D.d__law_gcd
  exact ⟨fd, k__law_gcd T D F, F.bindsN fun _ _ _ _ _ _ us hl => match us, hl with | [_, _], _ => rfl, F.kp, hm⟩
theorem sc__law_lowest : FnScope ["_law_top", "_law_bottom", "_law_shared"] ["_law_top", "_law_bottom"] (defScope (top 44)) := ⟨rfl, rfl, rfl, by decide +kernel, rfl, by decide +kernel, by decide +kernel⟩
theorem k__law_lowest (T : Tx K mg base Tb) (D : Dx K mg) {fd : FuncData} (F : FunD K "_law_lowest" "_law_lowest" (defArgs (top 44)) (defBody (top 44)) (defScope (top 44)) [] [] (He.ga K "_law_lowest") fd) : FnOk P w K mg base (L2.CX P w) 2 (He.ga K "_law_lowest") fd ["_law_top", "_law_bottom"] (spI (CW K Tb) 2 m__law_lowest) := by
  refine qf_def F sc__law_lowest fun cdv A outer s H E hr => ?_
  have tk := takes_of (X := (cxOf (L2.CX P w) P w K mg base ["_law_top", "_law_bottom", "_law_shared"] "_law_lowest" (defScope (top 44)) (He.ga K "_law_lowest") cdv A outer s H E)) (E := E) rfl rfl rfl rfl
  show PSs _ _ (tS (CW K Tb) b__law_lowest _)
  exact (qs_cons (qset 2 sc__law_lowest.nd (qe_fn (o__law_gcd T D) tk hr (by decide) rfl (qa_cons (qv 0) (qa_cons (qv 1) qa_nil)) (lenA_cons (lenA_cons lenA_nil)) rfl))
    (qs_cons (qs_if (qtcmp op_lt (fCmpI_ok _) (qv 1) qe_int) (qs_one (qset 2 sc__law_lowest.nd (qe_sub qe_int (qv 2)))) qs_nil)
    (qs_one (qs_ret (qe_tup (qa_cons (qe_div (qv 0) (qv 2)) (qa_cons (qe_div (qv 1) (qv 2)) qa_nil)))))))
theorem o__law_lowest (T : Tx K mg base Tb) (D : Dx K mg) : Ok P w K mg base (CW K Tb) 2 "_law_lowest" ["_law_top", "_law_bottom"] m__law_lowest := by
  obtain ⟨fd, F, hm⟩ := D.d__law_lowest
  exact ⟨fd, k__law_lowest T D F, F.bindsN fun _ _ _ _ _ _ us hl => match us, hl with | [_, _], _ => rfl, F.kp, hm⟩
theorem sc__law_exponent : FnScope ["_law_p", "_law_number", "_law_found", "_law_left"] ["_law_p", "_law_number"] (defScope (top 45)) := ⟨rfl, rfl, rfl, by decide +kernel, rfl, by decide +kernel, by decide +kernel⟩
theorem k__law_exponent (T : Tx K mg base Tb) (D : Dx K mg) {fd : FuncData} (F : FunD K "_law_exponent" "_law_exponent" (defArgs (top 45)) (defBody (top 45)) (defScope (top 45)) [] [] (He.ga K "_law_exponent") fd) : FnOk P w K mg base (L2.CX P w) 1 (He.ga K "_law_exponent") fd ["_law_p", "_law_number"] (spI (CW K Tb) 2 m__law_exponent) := by
  refine qf_def F sc__law_exponent fun cdv A outer s H E hr => ?_
  have tk := takes_of (X := (cxOf (L2.CX P w) P w K mg base ["_law_p", "_law_number", "_law_found", "_law_left"] "_law_exponent" (defScope (top 45)) (He.ga K "_law_exponent") cdv A outer s H E)) (E := E) rfl rfl rfl rfl
  show PSs _ _ (tS (CW K Tb) b__law_exponent _)
  exact (qs_cons (qs_par (i := 2) (j := 3) rfl sc__law_exponent.nd rfl rfl (by decide) rfl rfl (qa_cons qe_int (qa_cons (qv 1) qa_nil)) rfl)
    (qs_cons (qs_while 100000 (passes_of rfl) (qtcmp (op_eqK rfl (u64 hr)) fEq_ok (qe_mod (qv 3) (qv 0)) qe_int) (qs_one (qs_par (i := 3) (j := 2) rfl sc__law_exponent.nd rfl rfl (by decide) rfl rfl (qa_cons (qe_div (qv 3) (qv 0)) (qa_cons (qe_add rfl (qv 2) qe_int) qa_nil)) rfl)))
    (qs_one (qs_ret (qv 2)))))
theorem o__law_exponent (T : Tx K mg base Tb) (D : Dx K mg) : Ok P w K mg base (CW K Tb) 1 "_law_exponent" ["_law_p", "_law_number"] m__law_exponent := by
  obtain ⟨fd, F, hm⟩ := D.d__law_exponent
  exact ⟨fd, k__law_exponent T D F, F.bindsN fun _ _ _ _ _ _ us hl => match us, hl with | [_, _], _ => rfl, F.kp, hm⟩
theorem sc__law_is_above : FnScope ["_law_value", "_law_bound"] ["_law_value", "_law_bound"] (defScope (top 46)) := ⟨rfl, rfl, rfl, by decide +kernel, rfl, by decide +kernel, by decide +kernel⟩
theorem k__law_is_above (T : Tx K mg base Tb) (D : Dx K mg) {fd : FuncData} (F : FunD K "_law_is_above" "_law_is_above" (defArgs (top 46)) (defBody (top 46)) (defScope (top 46)) [] [] (He.ga K "_law_is_above") fd) : FnOk P w K mg base (L2.CX P w) 1 (He.ga K "_law_is_above") fd ["_law_value", "_law_bound"] (spI (CW K Tb) 2 m__law_is_above) := by
  refine qf_def F sc__law_is_above fun cdv A outer s H E hr => ?_
  have tk := takes_of (X := (cxOf (L2.CX P w) P w K mg base ["_law_value", "_law_bound"] "_law_is_above" (defScope (top 46)) (He.ga K "_law_is_above") cdv A outer s H E)) (E := E) rfl rfl rfl rfl
  show PSs _ _ (tS (CW K Tb) b__law_is_above _)
  exact (qs_one (qs_ret (qe_or (qcmp op_isN fIsN_ok (qv 0) qe_non) (qe_one (qcmp op_gt (fCmpI_ok _) (qv 0) (qv 1))))))
theorem o__law_is_above (T : Tx K mg base Tb) (D : Dx K mg) : Ok P w K mg base (CW K Tb) 1 "_law_is_above" ["_law_value", "_law_bound"] m__law_is_above := by
  obtain ⟨fd, F, hm⟩ := D.d__law_is_above
  exact ⟨fd, k__law_is_above T D F, F.bindsN fun _ _ _ _ _ _ us hl => match us, hl with | [_, _], _ => rfl, F.kp, hm⟩
theorem sc__law_split : FnScope ["_law_p", "_law_number", "_law_value", "_law_top"] ["_law_p", "_law_number"] (defScope (top 47)) := ⟨rfl, rfl, rfl, by decide +kernel, rfl, by decide +kernel, by decide +kernel⟩
theorem k__law_split (T : Tx K mg base Tb) (D : Dx K mg) {fd : FuncData} (F : FunD K "_law_split" "_law_split" (defArgs (top 47)) (defBody (top 47)) (defScope (top 47)) [] [] (He.ga K "_law_split") fd) : FnOk P w K mg base (L2.CX P w) 2 (He.ga K "_law_split") fd ["_law_p", "_law_number"] (spI (CW K Tb) 2 m__law_split) := by
  refine qf_def F sc__law_split fun cdv A outer s H E hr => ?_
  have tk := takes_of (X := (cxOf (L2.CX P w) P w K mg base ["_law_p", "_law_number", "_law_value", "_law_top"] "_law_split" (defScope (top 47)) (He.ga K "_law_split") cdv A outer s H E)) (E := E) rfl rfl rfl rfl
  show PSs _ _ (tS (CW K Tb) b__law_split _)
  exact (qs_cons (qset 2 sc__law_split.nd (qe_sub (qe_fn (o__law_exponent T D) tk hr (by decide) rfl (qa_cons (qv 0) (qa_cons (qe_ix rfl (qv 1) qe_int (fun _ _ => rfl)) qa_nil)) (lenA_cons (lenA_cons lenA_nil)) rfl) (qe_fn (o__law_exponent T D) tk hr (by decide) rfl (qa_cons (qv 0) (qa_cons (qe_ix rfl (qv 1) qe_int (fun _ _ => rfl)) qa_nil)) (lenA_cons (lenA_cons lenA_nil)) rfl)))
    (qs_cons (qset 3 sc__law_split.nd (qe_div (qe_ix rfl (qv 1) qe_int (fun _ _ => rfl)) (qe_fn (o__law_power T D) tk hr (by decide) rfl (qa_cons (qv 0) (qa_cons (qe_fn (o__law_exponent T D) tk hr (by decide) rfl (qa_cons (qv 0) (qa_cons (qe_ix rfl (qv 1) qe_int (fun _ _ => rfl)) qa_nil)) (lenA_cons (lenA_cons lenA_nil)) rfl) qa_nil)) (lenA_cons (lenA_cons lenA_nil)) rfl)))
    (qs_one (qs_ret (qe_tup (qa_cons (qv 2) (qa_cons (qe_tup (qa_cons (qv 3) (qa_cons (qe_div (qe_ix rfl (qv 1) qe_int (fun _ _ => rfl)) (qe_fn (o__law_power T D) tk hr (by decide) rfl (qa_cons (qv 0) (qa_cons (qe_fn (o__law_exponent T D) tk hr (by decide) rfl (qa_cons (qv 0) (qa_cons (qe_ix rfl (qv 1) qe_int (fun _ _ => rfl)) qa_nil)) (lenA_cons (lenA_cons lenA_nil)) rfl) qa_nil)) (lenA_cons (lenA_cons lenA_nil)) rfl)) qa_nil))) qa_nil)))))))
theorem o__law_split (T : Tx K mg base Tb) (D : Dx K mg) : Ok P w K mg base (CW K Tb) 2 "_law_split" ["_law_p", "_law_number"] m__law_split := by
  obtain ⟨fd, F, hm⟩ := D.d__law_split
  exact ⟨fd, k__law_split T D F, F.bindsN fun _ _ _ _ _ _ us hl => match us, hl with | [_, _], _ => rfl, F.kp, hm⟩
theorem sc__law_is_near_power : FnScope ["_law_p", "_law_unit", "_law_n", "_law_level", "_law_size", "_law_x"] ["_law_p", "_law_unit", "_law_n", "_law_level"] (defScope (top 48)) := ⟨rfl, rfl, rfl, by decide +kernel, rfl, by decide +kernel, by decide +kernel⟩
theorem k__law_is_near_power (T : Tx K mg base Tb) (D : Dx K mg) {fd : FuncData} (F : FunD K "_law_is_near_power" "_law_is_near_power" (defArgs (top 48)) (defBody (top 48)) (defScope (top 48)) [] [] (He.ga K "_law_is_near_power") fd) : FnOk P w K mg base (L2.CX P w) 2 (He.ga K "_law_is_near_power") fd ["_law_p", "_law_unit", "_law_n", "_law_level"] (spI (CW K Tb) 4 m__law_is_near_power) := by
  refine qf_def F sc__law_is_near_power fun cdv A outer s H E hr => ?_
  have tk := takes_of (X := (cxOf (L2.CX P w) P w K mg base ["_law_p", "_law_unit", "_law_n", "_law_level", "_law_size", "_law_x"] "_law_is_near_power" (defScope (top 48)) (He.ga K "_law_is_near_power") cdv A outer s H E)) (E := E) rfl rfl rfl rfl
  show PSs _ _ (tS (CW K Tb) b__law_is_near_power _)
  exact (qs_cons (qset 4 sc__law_is_near_power.nd (qe_fn (o__law_power T D) tk hr (by decide) rfl (qa_cons (qv 0) (qa_cons (qv 3) qa_nil)) (lenA_cons (lenA_cons lenA_nil)) rfl))
    (qs_one (qs_ret (qcmp (op_neK rfl (u64 hr)) fNe_ok (qe_lc (own := [("_law_x", 5)]) 1000000 (by decide) rfl sc__law_is_near_power.nd (qi_range1 rfl T.n_range (qa_cons (qv 4) qa_nil) (hn := (lenA_cons lenA_nil))) (blkOk_by (N := ["_law_p", "_law_unit", "_law_n", "_law_level", "_law_size", "_law_x"]) (sc := defScope (top 48)) (by decide +kernel)) (by decide) (fun _ _ _ _ _ => (qg 5 sc__law_is_near_power.nd)) (fun _ _ _ _ _ => (qts_one (qtcmp (op_eqK rfl (u64 hr)) fEq_ok (qe_mod (qe_sub (qe_mul rfl (qe_fn (o__law_power T D) takes0 hr (by decide) rfl (qa_cons (qv 5) (qa_cons (qv 2) qa_nil)) (lenA_cons (lenA_cons lenA_nil)) rfl) (qe_ix rfl (qv 1) qe_int (fun _ _ => rfl))) (qe_ix rfl (qv 1) qe_int (fun _ _ => rfl))) (qv 4)) qe_int))) (fun _ _ _ _ _ => (qv 5))) (qe_lst qa_nil)))))
theorem o__law_is_near_power (T : Tx K mg base Tb) (D : Dx K mg) : Ok P w K mg base (CW K Tb) 2 "_law_is_near_power" ["_law_p", "_law_unit", "_law_n", "_law_level"] m__law_is_near_power := by
  obtain ⟨fd, F, hm⟩ := D.d__law_is_near_power
  exact ⟨fd, k__law_is_near_power T D F, F.bindsN fun _ _ _ _ _ _ us hl => match us, hl with | [_, _, _, _], _ => rfl, F.kp, hm⟩
theorem sc__law_is_root : FnScope ["_law_p", "_law_number", "_law_n", "_law_value", "_law_less", "_law_size", "_law_one"] ["_law_p", "_law_number", "_law_n", "_law_value"] (defScope (top 49)) := ⟨rfl, rfl, rfl, by decide +kernel, rfl, by decide +kernel, by decide +kernel⟩
theorem k__law_is_root (T : Tx K mg base Tb) (D : Dx K mg) {fd : FuncData} (F : FunD K "_law_is_root" "_law_is_root" (defArgs (top 49)) (defBody (top 49)) (defScope (top 49)) [] [] (He.ga K "_law_is_root") fd) : FnOk P w K mg base (L2.CX P w) 2 (He.ga K "_law_is_root") fd ["_law_p", "_law_number", "_law_n", "_law_value"] (spI (CW K Tb) 4 m__law_is_root) := by
  refine qf_def F sc__law_is_root fun cdv A outer s H E hr => ?_
  have tk := takes_of (X := (cxOf (L2.CX P w) P w K mg base ["_law_p", "_law_number", "_law_n", "_law_value", "_law_less", "_law_size", "_law_one"] "_law_is_root" (defScope (top 49)) (He.ga K "_law_is_root") cdv A outer s H E)) (E := E) rfl rfl rfl rfl
  show PSs _ _ (tS (CW K Tb) b__law_is_root _)
  exact (qs_cons (qs_if (qt_w (qw_and (qt_truth rfl (qisinst rfl T.n_isinstance (qa_cons (qv 3) (qa_cons (qe_ty (t := .int) rfl T.n_int (by decide +kernel)) qa_nil)))) (qw_and1 (qt_not (qt_truth rfl (qisinst rfl T.n_isinstance (qa_cons (qv 3) (qa_cons (qe_ty (t := .bool) rfl T.n_bool (by decide +kernel)) qa_nil)))))))) (qs_one (qset 3 sc__law_is_root.nd (qe_tup (qa_cons (qv 3) (qa_cons qe_int qa_nil))))) qs_nil)
    (qs_cons (qs_if (qt_w (qw_or (qt_not (qt_truth rfl (qisinst rfl T.n_isinstance (qa_cons (qv 3) (qa_cons (qe_ty (t := .tuple) rfl T.n_tuple (by decide +kernel)) qa_nil))))) (qw_or1 (qtcmp (op_neK rfl (u64 hr)) fNe_ok (qlen rfl T.n_len (qa_cons (qv 3) qa_nil)) qe_int)))) (qs_one (qs_ret qe_bl)) qs_nil)
    (qs_cons (qs_if (qtcmp (op_neK rfl (u64 hr)) fNe_ok (qe_lc (own := [("_law_one", 6)]) 1000000 (by decide) rfl sc__law_is_root.nd (qi_seq rfl (qv 3)) (blkOk_by (N := ["_law_p", "_law_number", "_law_n", "_law_value", "_law_less", "_law_size", "_law_one"]) (sc := defScope (top 49)) (by decide +kernel)) (by decide) (fun _ _ _ _ _ => (qg 6 sc__law_is_root.nd)) (fun _ _ _ _ _ => (qts_one (qt_w (qw_or (qt_truth rfl (qisinst rfl T.n_isinstance (qa_cons (qv 6) (qa_cons (qe_ty (t := .bool) rfl T.n_bool (by decide +kernel)) qa_nil)))) (qw_or1 (qt_not (qt_truth rfl (qisinst rfl T.n_isinstance (qa_cons (qv 6) (qa_cons (qe_ty (t := .int) rfl T.n_int (by decide +kernel)) qa_nil)))))))))) (fun _ _ _ _ _ => qe_int)) (qe_lst qa_nil)) (qs_one (qs_ret qe_bl)) qs_nil)
    (qs_cons (qs_if (qt_w (qw_or (qtcmp op_lt (fCmpI_ok _) (qe_ix rfl (qv 3) qe_int (fun _ _ => rfl)) qe_int) (qw_or (qtcmp (op_neK rfl (u64 hr)) fNe_ok (qe_fn (o__law_gcd T D) tk hr (by decide) rfl (qa_cons (qe_ix rfl (qv 3) qe_int (fun _ _ => rfl)) (qa_cons (qe_ix rfl (qv 3) qe_int (fun _ _ => rfl)) qa_nil)) (lenA_cons (lenA_cons lenA_nil)) rfl) qe_int) (qw_or1 (qtcmp (op_eqK rfl (u64 hr)) fEq_ok (qe_ix rfl (qv 3) qe_int (fun _ _ => rfl)) qe_int))))) (qs_one (qs_ret qe_bl)) qs_nil)
    (qs_cons (qset 4 sc__law_is_root.nd (qe_sub (qe_mul rfl (qe_fn (o__law_power T D) tk hr (by decide) rfl (qa_cons (qe_ix rfl (qv 3) qe_int (fun _ _ => rfl)) (qa_cons (qv 2) qa_nil)) (lenA_cons (lenA_cons lenA_nil)) rfl) (qe_ix rfl (qv 1) qe_int (fun _ _ => rfl))) (qe_mul rfl (qe_fn (o__law_power T D) tk hr (by decide) rfl (qa_cons (qe_ix rfl (qv 3) qe_int (fun _ _ => rfl)) (qa_cons (qv 2) qa_nil)) (lenA_cons (lenA_cons lenA_nil)) rfl) (qe_ix rfl (qv 1) qe_int (fun _ _ => rfl)))))
    (qs_cons (qs_if (qtcmp (op_eqK rfl (u64 hr)) fEq_ok (qv 4) qe_int) (qs_one (qs_ret qe_bl)) qs_nil)
    (qs_cons (qset 5 sc__law_is_root.nd (qe_add rfl (qe_fn (o__law_exponent T D) tk hr (by decide) rfl (qa_cons (qv 0) (qa_cons (qe_ix rfl (qv 1) qe_int (fun _ _ => rfl)) qa_nil)) (lenA_cons (lenA_cons lenA_nil)) rfl) (qe_mul rfl (qv 2) (qe_fn (o__law_exponent T D) tk hr (by decide) rfl (qa_cons (qv 0) (qa_cons (qe_ix rfl (qv 3) qe_int (fun _ _ => rfl)) qa_nil)) (lenA_cons (lenA_cons lenA_nil)) rfl))))
    (qs_one (qs_ret (qcmp op_gt (fCmpI_ok _) (qe_sub (qe_fn (o__law_exponent T D) tk hr (by decide) rfl (qa_cons (qv 0) (qa_cons (qv 4) qa_nil)) (lenA_cons (lenA_cons lenA_nil)) rfl) (qv 5)) (qe_mul rfl qe_int (qe_fn (o__law_exponent T D) tk hr (by decide) rfl (qa_cons (qv 0) (qa_cons (qv 2) qa_nil)) (lenA_cons (lenA_cons lenA_nil)) rfl))))))))))))
theorem o__law_is_root (T : Tx K mg base Tb) (D : Dx K mg) : Ok P w K mg base (CW K Tb) 2 "_law_is_root" ["_law_p", "_law_number", "_law_n", "_law_value"] m__law_is_root := by
  obtain ⟨fd, F, hm⟩ := D.d__law_is_root
  exact ⟨fd, k__law_is_root T D F, F.bindsN fun _ _ _ _ _ _ us hl => match us, hl with | [_, _, _, _], _ => rfl, F.kp, hm⟩
theorem sc__law_is_paper : FnScope ["_law_p", "_law_number", "_law_n", "_law_value", "_law_shift", "_law_unit"] ["_law_p", "_law_number", "_law_n", "_law_value"] (defScope (top 50)) := ⟨rfl, rfl, rfl, by decide +kernel, rfl, by decide +kernel, by decide +kernel⟩
theorem k__law_is_paper (T : Tx K mg base Tb) (D : Dx K mg) {fd : FuncData} (F : FunD K "_law_is_paper" "_law_is_paper" (defArgs (top 50)) (defBody (top 50)) (defScope (top 50)) [] [] (He.ga K "_law_is_paper") fd) : FnOk P w K mg base (L2.CX P w) 3 (He.ga K "_law_is_paper") fd ["_law_p", "_law_number", "_law_n", "_law_value"] (spI (CW K Tb) 4 m__law_is_paper) := by
  refine qf_def F sc__law_is_paper fun cdv A outer s H E hr => ?_
  have tk := takes_of (X := (cxOf (L2.CX P w) P w K mg base ["_law_p", "_law_number", "_law_n", "_law_value", "_law_shift", "_law_unit"] "_law_is_paper" (defScope (top 50)) (He.ga K "_law_is_paper") cdv A outer s H E)) (E := E) rfl rfl rfl rfl
  show PSs _ _ (tS (CW K Tb) b__law_is_paper _)
  exact (qs_cons (qs_if (qt_w (qw_or (qt_not (qt_truth rfl (qisinst rfl T.n_isinstance (qa_cons (qv 3) (qa_cons (qe_ty (t := .tuple) rfl T.n_tuple (by decide +kernel)) qa_nil))))) (qw_or (qtcmp (op_eqK rfl (u64 hr)) fEq_ok (qv 3) (qe_tup qa_nil)) (qw_or1 (qt_not (qt_truth rfl (qisinst rfl T.n_isinstance (qa_cons (qe_ix rfl (qv 3) qe_int (fun _ _ => rfl)) (qa_cons (qe_ty (t := .str) rfl T.n_str (by decide +kernel)) qa_nil))))))))) (qs_one (qs_ret qe_bl)) qs_nil)
    (qs_cons (qs_asg (qe_fn (o__law_split T D) tk hr (by decide) rfl (qa_cons (qv 0) (qa_cons (qv 1) qa_nil)) (lenA_cons (lenA_cons lenA_nil)) rfl) (qg_tup rfl rfl (qgs_cons (qg 4 sc__law_is_paper.nd) (qgs_cons (qg 5 sc__law_is_paper.nd) qgs_nil)) rfl))
    (qs_cons (qs_if (qtcmp (op_eqK rfl (u64 hr)) fEq_ok (qe_ix rfl (qv 3) qe_int (fun _ _ => rfl)) qe_str) (qs_one (qs_ret (qe_and (qcmp (op_eqK rfl (u64 hr)) fEq_ok (qlen rfl T.n_len (qa_cons (qv 3) qa_nil)) qe_int) (qe_one (qcmp (op_neK rfl (u64 hr)) fNe_ok (qe_mod (qv 4) (qv 2)) qe_int))))) qs_nil)
    (qs_cons (qs_if (qtcmp (op_neK rfl (u64 hr)) fNe_ok (qlen rfl T.n_len (qa_cons (qv 3) qa_nil)) qe_int) (qs_one (qs_ret qe_bl)) qs_nil)
    (qs_cons (qs_if (qtcmp (op_eqK rfl (u64 hr)) fEq_ok (qe_ix rfl (qv 3) qe_int (fun _ _ => rfl)) qe_str) (qs_cons (qs_if (qt_w (qw_or (qt_truth rfl (qisinst rfl T.n_isinstance (qa_cons (qe_ix rfl (qv 3) qe_int (fun _ _ => rfl)) (qa_cons (qe_ty (t := .bool) rfl T.n_bool (by decide +kernel)) qa_nil)))) (qw_or (qt_not (qt_truth rfl (qisinst rfl T.n_isinstance (qa_cons (qe_ix rfl (qv 3) qe_int (fun _ _ => rfl)) (qa_cons (qe_ty (t := .int) rfl T.n_int (by decide +kernel)) qa_nil))))) (qw_or1 (qt_not (qt_chain op_le op_le (fCmpI_ok _) (fCmpI_ok _) qe_int (qe_ix rfl (qv 3) qe_int (fun _ _ => rfl)) qe_int)))))) (qs_one (qs_ret qe_bl)) qs_nil)
    (qs_one (qs_ret (qe_not (qe_fn (o__law_is_near_power T D) tk hr (by decide) rfl (qa_cons (qv 0) (qa_cons (qv 5) (qa_cons (qv 2) (qa_cons (qmin rfl rfl T.n_min (qa_cons (qe_ix rfl (qv 3) qe_int (fun _ _ => rfl)) (qa_cons (qe_add rfl (qe_mul rfl qe_int (qe_fn (o__law_exponent T D) tk hr (by decide) rfl (qa_cons (qv 0) (qa_cons (qv 2) qa_nil)) (lenA_cons (lenA_cons lenA_nil)) rfl)) qe_int) qa_nil))) qa_nil)))) (lenA_cons (lenA_cons (lenA_cons (lenA_cons lenA_nil)))) rfl))))) qs_nil)
    (qs_one (qs_ret (qe_and (qcmp (op_eqK rfl (u64 hr)) fEq_ok (qe_ix rfl (qv 3) qe_int (fun _ _ => rfl)) qe_str) (qe_one (qe_fn (o__law_is_root T D) tk hr (by decide) rfl (qa_cons (qv 0) (qa_cons (qv 1) (qa_cons (qv 2) (qa_cons (qe_ix rfl (qv 3) qe_int (fun _ _ => rfl)) qa_nil)))) (lenA_cons (lenA_cons (lenA_cons (lenA_cons lenA_nil)))) rfl))))))))))
theorem o__law_is_paper (T : Tx K mg base Tb) (D : Dx K mg) : Ok P w K mg base (CW K Tb) 3 "_law_is_paper" ["_law_p", "_law_number", "_law_n", "_law_value"] m__law_is_paper := by
  obtain ⟨fd, F, hm⟩ := D.d__law_is_paper
  exact ⟨fd, k__law_is_paper T D F, F.bindsN fun _ _ _ _ _ _ us hl => match us, hl with | [_, _, _, _], _ => rfl, F.kp, hm⟩
theorem sc__law_number_drawn : FnScope ["_law_dice_here", "_law_p", "_law_n", "_law_top", "_law_bottom", "_law_sign", "_law_number", "_law_more"] ["_law_dice_here", "_law_p", "_law_n"] (defScope (top 51)) := ⟨rfl, rfl, rfl, by decide +kernel, rfl, by decide +kernel, by decide +kernel⟩
theorem k__law_number_drawn (T : Tx K mg base Tb) (D : Dx K mg) {fd : FuncData} (F : FunD K "_law_number_drawn" "_law_number_drawn" (defArgs (top 51)) (defBody (top 51)) (defScope (top 51)) [] [] (He.ga K "_law_number_drawn") fd) : FnOk P w K mg base (L2.CX P w) 3 (He.ga K "_law_number_drawn") fd ["_law_dice_here", "_law_p", "_law_n"] (spI (CW K Tb) 3 m__law_number_drawn) := by
  refine qf_def F sc__law_number_drawn fun cdv A outer s H E hr => ?_
  have tk := takes_of (X := (cxOf (L2.CX P w) P w K mg base ["_law_dice_here", "_law_p", "_law_n", "_law_top", "_law_bottom", "_law_sign", "_law_number", "_law_more"] "_law_number_drawn" (defScope (top 51)) (He.ga K "_law_number_drawn") cdv A outer s H E)) (E := E) rfl rfl rfl rfl
  show PSs _ _ (tS (CW K Tb) b__law_number_drawn _)
  exact (qs_cons (qs_par (i := 3) (j := 4) rfl sc__law_number_drawn.nd rfl rfl (by decide) rfl rfl (qa_cons (qe_add rfl qe_int (qe_fn (o__law_roll T D) tk hr (by decide) rfl (qa_cons (qv 0) (qa_cons qe_int qa_nil)) (lenA_cons (lenA_cons lenA_nil)) rfl)) (qa_cons (qe_add rfl qe_int (qe_fn (o__law_roll T D) tk hr (by decide) rfl (qa_cons (qv 0) (qa_cons (qe_fn (o__law_one_of T D) tk hr (by decide) rfl (qa_cons (qv 0) (qa_cons (qe_lst (qa_cons qe_int (qa_cons qe_int (qa_cons qe_int qa_nil)))) qa_nil)) (lenA_cons (lenA_cons lenA_nil)) rfl) qa_nil)) (lenA_cons (lenA_cons lenA_nil)) rfl)) qa_nil)) rfl)
    (qs_cons (qset 5 sc__law_number_drawn.nd (qe_fn (o__law_one_of T D) tk hr (by decide) rfl (qa_cons (qv 0) (qa_cons (qe_lst (qa_cons qe_int (qa_cons qe_int (qa_cons (qe_neg qe_int) qa_nil)))) qa_nil)) (lenA_cons (lenA_cons lenA_nil)) rfl))
    (qs_cons (qset 6 sc__law_number_drawn.nd (qe_fn (o__law_lowest T D) tk hr (by decide) rfl (qa_cons (qe_mul rfl (qe_mul rfl (qv 5) (qv 3)) (qe_fn (o__law_power T D) tk hr (by decide) rfl (qa_cons (qv 1) (qa_cons (qe_fn (o__law_one_of T D) tk hr (by decide) rfl (qa_cons (qv 0) (qa_cons (qe_lst (qa_cons qe_int (qa_cons qe_int (qa_cons qe_int (qa_cons qe_int (qa_cons qe_int qa_nil)))))) qa_nil)) (lenA_cons (lenA_cons lenA_nil)) rfl) qa_nil)) (lenA_cons (lenA_cons lenA_nil)) rfl)) (qa_cons (qv 4) qa_nil)) (lenA_cons (lenA_cons lenA_nil)) rfl))
    (qs_cons (qs_if (qtcmp (op_eqK rfl (u64 hr)) fEq_ok (qe_fn (o__law_roll T D) tk hr (by decide) rfl (qa_cons (qv 0) (qa_cons qe_int qa_nil)) (lenA_cons (lenA_cons lenA_nil)) rfl) qe_int) (qs_cons (qset 6 sc__law_number_drawn.nd (qe_tup (qa_cons (qe_fn (o__law_power T D) tk hr (by decide) rfl (qa_cons (qe_ix rfl (qv 6) qe_int (fun _ _ => rfl)) (qa_cons (qv 2) qa_nil)) (lenA_cons (lenA_cons lenA_nil)) rfl) (qa_cons (qe_fn (o__law_power T D) tk hr (by decide) rfl (qa_cons (qe_ix rfl (qv 6) qe_int (fun _ _ => rfl)) (qa_cons (qv 2) qa_nil)) (lenA_cons (lenA_cons lenA_nil)) rfl) qa_nil))))
    (qs_cons (qset 7 sc__law_number_drawn.nd (qe_mul rfl (qe_fn (o__law_power T D) tk hr (by decide) rfl (qa_cons (qv 1) (qa_cons (qe_fn (o__law_roll T D) tk hr (by decide) rfl (qa_cons (qv 0) (qa_cons qe_int qa_nil)) (lenA_cons (lenA_cons lenA_nil)) rfl) qa_nil)) (lenA_cons (lenA_cons lenA_nil)) rfl) (qe_fn (o__law_one_of T D) tk hr (by decide) rfl (qa_cons (qv 0) (qa_cons (qe_lst (qa_cons qe_int (qa_cons qe_int (qa_cons (qe_neg qe_int) (qa_cons qe_int qa_nil))))) qa_nil)) (lenA_cons (lenA_cons lenA_nil)) rfl)))
    (qs_one (qs_if (qtcmp (op_neK rfl (u64 hr)) fNe_ok (qe_add rfl (qe_ix rfl (qv 6) qe_int (fun _ _ => rfl)) (qv 7)) qe_int) (qs_one (qset 6 sc__law_number_drawn.nd (qe_fn (o__law_lowest T D) tk hr (by decide) rfl (qa_cons (qe_add rfl (qe_ix rfl (qv 6) qe_int (fun _ _ => rfl)) (qv 7)) (qa_cons (qe_ix rfl (qv 6) qe_int (fun _ _ => rfl)) qa_nil)) (lenA_cons (lenA_cons lenA_nil)) rfl))) qs_nil)))) qs_nil)
    (qs_one (qs_ret (qe_if (qtcmp op_lt (fCmpI_ok _) (qmax rfl rfl T.n_max (qa_cons (qabs  T.n_abs (qa_cons (qe_ix rfl (qv 6) qe_int (fun _ _ => rfl)) qa_nil)) (qa_cons (qe_ix rfl (qv 6) qe_int (fun _ _ => rfl)) qa_nil))) (qe_pow qe_int qe_int)) (qv 6) (qe_tup (qa_cons qe_int (qa_cons qe_int qa_nil))))))))))
theorem o__law_number_drawn (T : Tx K mg base Tb) (D : Dx K mg) : Ok P w K mg base (CW K Tb) 3 "_law_number_drawn" ["_law_dice_here", "_law_p", "_law_n"] m__law_number_drawn := by
  obtain ⟨fd, F, hm⟩ := D.d__law_number_drawn
  exact ⟨fd, k__law_number_drawn T D F, F.bindsN fun _ _ _ _ _ _ us hl => match us, hl with | [_, _, _], _ => rfl, F.kp, hm⟩
theorem sc__law_right : FnScope ["_law_dice_here", "_law_p", "_law_n", "_law_number", "_law_shift", "_law_unit", "_law_handed", "_law_told", "_law_is_power", "_law_some", "_law_more", "_law_value"] ["_law_dice_here"] (defScope (top 52)) := ⟨rfl, rfl, rfl, by decide +kernel, rfl, by decide +kernel, by decide +kernel⟩
theorem k__law_right (T : Tx K mg base Tb) (D : Dx K mg) {fd : FuncData} (F : FunD K "_law_right" "_law_right" (defArgs (top 52)) (defBody (top 52)) (defScope (top 52)) [] [] (He.ga K "_law_right") fd) : FnOk P w K mg base (L2.CX P w) 7 (He.ga K "_law_right") fd ["_law_dice_here"] (spI (CW K Tb) 1 m__law_right) := by
  refine qf_def F sc__law_right fun cdv A outer s H E hr => ?_
  have tk := takes_of (X := (cxOf (L2.CX P w) P w K mg base ["_law_dice_here", "_law_p", "_law_n", "_law_number", "_law_shift", "_law_unit", "_law_handed", "_law_told", "_law_is_power", "_law_some", "_law_more", "_law_value"] "_law_right" (defScope (top 52)) (He.ga K "_law_right") cdv A outer s H E)) (E := E) rfl rfl rfl rfl
  show PSs _ _ (tS (CW K Tb) b__law_right _)
  exact (qs_cons (qs_par (i := 1) (j := 2) rfl sc__law_right.nd rfl rfl (by decide) rfl rfl (qa_cons (qe_fn (o__law_one_of T D) tk hr (by decide) rfl (qa_cons (qv 0) (qa_cons (qe_lst (qa_cons qe_int (qa_cons qe_int (qa_cons qe_int (qa_cons qe_int qa_nil))))) qa_nil)) (lenA_cons (lenA_cons lenA_nil)) rfl) (qa_cons (qe_add rfl qe_int (qe_fn (o__law_roll T D) tk hr (by decide) rfl (qa_cons (qv 0) (qa_cons qe_int qa_nil)) (lenA_cons (lenA_cons lenA_nil)) rfl)) qa_nil)) rfl)
    (qs_cons (qset 3 sc__law_right.nd (qe_fn (o__law_number_drawn T D) tk hr (by decide) rfl (qa_cons (qv 0) (qa_cons (qv 1) (qa_cons (qv 2) qa_nil))) (lenA_cons (lenA_cons (lenA_cons lenA_nil))) rfl))
    (qs_cons (qs_asg (qe_fn (o__law_split T D) tk hr (by decide) rfl (qa_cons (qv 1) (qa_cons (qv 3) qa_nil)) (lenA_cons (lenA_cons lenA_nil)) rfl) (qg_tup rfl rfl (qgs_cons (qg 4 sc__law_right.nd) (qgs_cons (qg 5 sc__law_right.nd) qgs_nil)) rfl))
    (qs_cons (qset 6 sc__law_right.nd (qe_if (qtcmp (op_eqK rfl (u64 hr)) fEq_ok (qe_ix rfl (qv 3) qe_int (fun _ _ => rfl)) qe_int) (qe_ix rfl (qv 3) qe_int (fun _ _ => rfl)) (qv 3)))
    (qs_cons (qset 7 sc__law_right.nd (qe_fn (o_power_paper T D) tk hr (by decide) rfl (qa_cons (qv 1) (qa_cons (qv 6) (qa_cons (qv 2) qa_nil))) (lenA_cons (lenA_cons (lenA_cons lenA_nil))) rfl))
    (qs_cons (qset 8 sc__law_right.nd (qe_and (qcmp (op_eqK rfl (u64 hr)) fEq_ok (qe_mod (qv 4) (qv 2)) qe_int) (qe_one (qe_fn (o__law_is_near_power T D) tk hr (by decide) rfl (qa_cons (qv 1) (qa_cons (qv 5) (qa_cons (qv 2) (qa_cons (qe_add rfl (qe_mul rfl qe_int (qe_fn (o__law_exponent T D) tk hr (by decide) rfl (qa_cons (qv 1) (qa_cons (qv 2) qa_nil)) (lenA_cons (lenA_cons lenA_nil)) rfl)) qe_int) qa_nil)))) (lenA_cons (lenA_cons (lenA_cons (lenA_cons lenA_nil)))) rfl))))
    (qs_cons (qs_if (qt_w (qw_or (qt_not (qt_truth rfl (qe_fn (o__law_is_paper T D) tk hr (by decide) rfl (qa_cons (qv 1) (qa_cons (qv 3) (qa_cons (qv 2) (qa_cons (qv 7) qa_nil)))) (lenA_cons (lenA_cons (lenA_cons (lenA_cons lenA_nil)))) rfl))) (qw_or1 (qtcmp (op_neK rfl (u64 hr)) fNe_ok (qcmp (op_eqK rfl (u64 hr)) fEq_ok (qe_ix rfl (qv 7) qe_int (fun _ _ => rfl)) qe_str) (qv 8))))) (qs_one (qs_ret qe_bl)) qs_nil)
    (qs_cons (qs_if (qt_not (qt_truth rfl (qe_fn (o_is_power_paper T D) tk hr (by decide) rfl (qa_cons (qv 1) (qa_cons (qv 6) (qa_cons (qv 2) (qa_cons (qv 7) qa_nil)))) (lenA_cons (lenA_cons (lenA_cons (lenA_cons lenA_nil)))) rfl))) (qs_one (qs_ret qe_bl)) qs_nil)
    (qs_cons (qset 9 sc__law_right.nd (qe_lst (qa_cons (qe_tup (qa_cons qe_str qa_nil)) (qa_cons (qe_tup (qa_cons qe_str (qa_cons (qe_add rfl (qe_mul rfl qe_int (qe_fn (o__law_exponent T D) tk hr (by decide) rfl (qa_cons (qv 1) (qa_cons (qv 2) qa_nil)) (lenA_cons (lenA_cons lenA_nil)) rfl)) qe_int) qa_nil))) (qa_cons (qe_tup (qa_cons qe_str (qa_cons qe_int qa_nil))) (qa_cons (qe_tup (qa_cons qe_str (qa_cons (qe_add rfl qe_int (qe_fn (o__law_roll T D) tk hr (by decide) rfl (qa_cons (qv 0) (qa_cons qe_int qa_nil)) (lenA_cons (lenA_cons lenA_nil)) rfl)) qa_nil))) qa_nil))))))
    (qs_cons (qset 9 sc__law_right.nd (qe_add rfl (qv 9) (qe_lst (qa_cons (qe_tup (qa_cons qe_str (qa_cons qe_int qa_nil))) (qa_cons (qe_tup (qa_cons qe_str (qa_cons qe_bl qa_nil))) (qa_cons (qe_tup (qa_cons qe_str (qa_cons qe_int qa_nil))) (qa_cons (qe_tup (qa_cons qe_str (qa_cons qe_int qa_nil))) (qa_cons (qe_tup (qa_cons qe_str (qa_cons qe_non qa_nil))) (qa_cons (qe_tup (qa_cons qe_str qa_nil)) (qa_cons (qe_tup qa_nil) qa_nil))))))))))
    (qs_cons (qset 9 sc__law_right.nd (qe_add rfl (qv 9) (qe_lst (qa_cons (qe_tup (qa_cons qe_str (qa_cons qe_int qa_nil))) (qa_cons qe_non (qa_cons qe_int (qa_cons qe_str (qa_cons (qe_lst (qa_cons qe_str qa_nil)) (qa_cons (qe_tup (qa_cons qe_str (qa_cons (qe_tup (qa_cons qe_int (qa_cons qe_int qa_nil))) qa_nil))) (qa_cons (qe_tup (qa_cons qe_str (qa_cons (qv 5) qa_nil))) (qa_cons (qe_tup (qa_cons qe_str (qa_cons qe_int qa_nil))) qa_nil)))))))))))
    (qs_cons (qs_expr (qappend rfl (qv 9) (qa_cons (qe_tup (qa_cons qe_str (qa_cons (qe_sub (qe_fn (o__law_roll T D) tk hr (by decide) rfl (qa_cons (qv 0) (qa_cons qe_int qa_nil)) (lenA_cons (lenA_cons lenA_nil)) rfl) qe_int) qa_nil))) qa_nil) (fun h1 h2 => pe_bm PySem.F.plainAttrs_list PySem.F.slot_list_append PySem.F.type_list_append mt_append h1 h2)))
    (qs_cons (qs_if (qt_w (qw_and (qtcmp (op_eqK rfl (u64 hr)) fEq_ok (qe_ix rfl (qv 7) qe_int (fun _ _ => rfl)) qe_str) (qw_and1 (qt_truth rfl (qisinst rfl T.n_isinstance (qa_cons (qe_ix rfl (qv 7) qe_int (fun _ _ => rfl)) (qa_cons (qe_ty (t := .int) rfl T.n_int (by decide +kernel)) qa_nil))))))) (qs_one (qs_for 1000000 (passes_of rfl) rfl (qi_seq rfl (qe_tup (qa_cons qe_int (qa_cons (qv 1) (qa_cons (qe_fn (o__law_power T D) tk hr (by decide) rfl (qa_cons (qv 1) (qa_cons qe_int qa_nil)) (lenA_cons (lenA_cons lenA_nil)) rfl) (qa_cons (qe_fn (o__law_power T D) tk hr (by decide) rfl (qa_cons (qv 1) (qa_cons qe_int qa_nil)) (lenA_cons (lenA_cons lenA_nil)) rfl) (qa_cons (qe_mul rfl (qe_neg qe_int) (qe_ix rfl (qv 7) qe_int (fun _ _ => rfl))) qa_nil))))))) (qg 10 sc__law_right.nd) (qs_one (qs_expr (qappend rfl (qv 9) (qa_cons (qe_tup (qa_cons qe_str (qa_cons (qe_add rfl (qe_ix rfl (qv 7) qe_int (fun _ _ => rfl)) (qv 10)) qa_nil))) qa_nil) (fun h1 h2 => pe_bm PySem.F.plainAttrs_list PySem.F.slot_list_append PySem.F.type_list_append mt_append h1 h2)))))) qs_nil)
    (qs_cons (qs_for 1000000 (passes_of rfl) rfl (qi_seq rfl (qv 9)) (qg 11 sc__law_right.nd) (qs_one (qs_if (qtcmp (op_neK rfl (u64 hr)) fNe_ok (qe_fn (o_is_power_paper T D) tk hr (by decide) rfl (qa_cons (qv 1) (qa_cons (qv 6) (qa_cons (qv 2) (qa_cons (qv 11) qa_nil)))) (lenA_cons (lenA_cons (lenA_cons (lenA_cons lenA_nil)))) rfl) (qe_fn (o__law_is_paper T D) tk hr (by decide) rfl (qa_cons (qv 1) (qa_cons (qv 3) (qa_cons (qv 2) (qa_cons (qv 11) qa_nil)))) (lenA_cons (lenA_cons (lenA_cons (lenA_cons lenA_nil)))) rfl)) (qs_one (qs_ret qe_bl)) qs_nil)))
    (qs_one (qs_ret qe_bl))))))))))))))))
theorem o__law_right (T : Tx K mg base Tb) (D : Dx K mg) : Ok P w K mg base (CW K Tb) 7 "_law_right" ["_law_dice_here"] m__law_right := by
  obtain ⟨fd, F, hm⟩ := D.d__law_right
  exact ⟨fd, k__law_right T D F, F.bindsN fun _ _ _ _ _ _ us hl => match us, hl with | [_], _ => rfl, F.kp, hm⟩
theorem sc_law : FnScope ["_law_script", "_law_at"] ["_law_script"] (defScope (top 53)) := ⟨rfl, rfl, rfl, by decide +kernel, rfl, by decide +kernel, by decide +kernel⟩
theorem k_law (T : Tx K mg base Tb) (D : Dx K mg) {fd : FuncData} (F : FunD K "law" "law" (defArgs (top 53)) (defBody (top 53)) (defScope (top 53)) [] [] (He.ga K "law") fd) : FnOk P w K mg base (L2.CX P w) 8 (He.ga K "law") fd ["_law_script"] (spI (CW K Tb) 1 m_law) := by
  refine qf_def F sc_law fun cdv A outer s H E hr => ?_
  have tk := takes_of (X := (cxOf (L2.CX P w) P w K mg base ["_law_script", "_law_at"] "law" (defScope (top 53)) (He.ga K "law") cdv A outer s H E)) (E := E) rfl rfl rfl rfl
  show PSs _ _ (tS (CW K Tb) b_law _)
  exact (qs_cons (qs_for 1000000 (passes_of rfl) rfl (qi_range1 rfl T.n_range (qa_cons (qmax rfl rfl T.n_max (qa_cons qe_int (qa_cons (qmin rfl rfl T.n_min (qa_cons qe_int (qa_cons (qlen rfl T.n_len (qa_cons (qv 0) qa_nil)) qa_nil))) qa_nil))) qa_nil) (hn := (lenA_cons lenA_nil))) (qg 1 sc_law.nd) (qs_one (qs_if (qt_not (qt_truth rfl (qe_fn (o__law_right T D) tk hr (by decide) rfl (qa_cons (qe_fn (o__law_dice T D) tk hr (by decide) rfl (qa_cons (qv 0) (qa_cons (qv 1) qa_nil)) (lenA_cons (lenA_cons lenA_nil)) rfl) qa_nil) (lenA_cons lenA_nil) rfl))) (qs_one (qs_ret qe_bl)) qs_nil)))
    (qs_one (qs_ret qe_bl)))
theorem o_law (T : Tx K mg base Tb) (D : Dx K mg) : Ok P w K mg base (CW K Tb) 8 "law" ["_law_script"] m_law := by
  obtain ⟨fd, F, hm⟩ := D.d_law
  exact ⟨fd, k_law T D F, F.bindsN fun _ _ _ _ _ _ us hl => match us, hl with | [_], _ => rfl, F.kp, hm⟩
end
end LW

set_option Elab.async false
set_option linter.all false
set_option maxRecDepth 100000
set_option maxHeartbeats 4000000
set_option autoImplicit false
namespace LW
open PySem PySem.Spec PyProof.Rows L2 FX
/-! ### the head -/
def d_is_whole_number : He.DefD := ⟨("is_whole_number", none), "is_whole_number", "is_whole_number", defArgs (top 14), defBody (top 14), defScope (top 14), [], []⟩
def d_is_integer : He.DefD := ⟨("is_integer", none), "is_integer", "is_integer", defArgs (top 15), defBody (top 15), defScope (top 15), [], []⟩
def d_is_within : He.DefD := ⟨("is_within", none), "is_within", "is_within", defArgs (top 16), defBody (top 16), defScope (top 16), [], []⟩
def d_is_ratio_any : He.DefD := ⟨("is_ratio_any", none), "is_ratio_any", "is_ratio_any", defArgs (top 17), defBody (top 17), defScope (top 17), [], []⟩
def d_is_number_any : He.DefD := ⟨("is_number_any", none), "is_number_any", "is_number_any", defArgs (top 18), defBody (top 18), defScope (top 18), [], []⟩
def d_is_number_in : He.DefD := ⟨("is_number_in", none), "is_number_in", "is_number_in", defArgs (top 19), defBody (top 19), defScope (top 19), [], []⟩
def d_power_of : He.DefD := ⟨("power_of", none), "power_of", "power_of", defArgs (top 20), defBody (top 20), defScope (top 20), [], []⟩
def d_exponent_in : He.DefD := ⟨("exponent_in", none), "exponent_in", "exponent_in", defArgs (top 21), defBody (top 21), defScope (top 21), [], []⟩
def d_pair_of : He.DefD := ⟨("pair_of", none), "pair_of", "pair_of", defArgs (top 22), defBody (top 22), defScope (top 22), [], []⟩
def d_value_in : He.DefD := ⟨("value_in", none), "value_in", "value_in", defArgs (top 23), defBody (top 23), defScope (top 23), [], []⟩
def d_undone_in : He.DefD := ⟨("undone_in", none), "undone_in", "undone_in", defArgs (top 24), defBody (top 24), defScope (top 24), [], []⟩
def d_unit_in : He.DefD := ⟨("unit_in", none), "unit_in", "unit_in", defArgs (top 25), defBody (top 25), defScope (top 25), [], []⟩
def d_rest_in : He.DefD := ⟨("rest_in", none), "rest_in", "rest_in", defArgs (top 26), defBody (top 26), defScope (top 26), [], []⟩
def d_power_level : He.DefD := ⟨("power_level", none), "power_level", "power_level", defArgs (top 27), defBody (top 27), defScope (top 27), [], []⟩
def d_rest_root : He.DefD := ⟨("rest_root", none), "rest_root", "rest_root", defArgs (top 28), defBody (top 28), defScope (top 28), [], []⟩
def d_power_paper_in : He.DefD := ⟨("power_paper_in", none), "power_paper_in", "power_paper_in", defArgs (top 29), defBody (top 29), defScope (top 29), [], []⟩
def d_is_power_root_in : He.DefD := ⟨("is_power_root_in", none), "is_power_root_in", "is_power_root_in", defArgs (top 30), defBody (top 30), defScope (top 30), [], []⟩
def d_is_power_paper_in : He.DefD := ⟨("is_power_paper_in", none), "is_power_paper_in", "is_power_paper_in", defArgs (top 31), defBody (top 31), defScope (top 31), [], []⟩
def d_require_prime : He.DefD := ⟨("require_prime", none), "require_prime", "require_prime", defArgs (top 32), defBody (top 32), defScope (top 32), [], []⟩
def d_require_number : He.DefD := ⟨("require_number", none), "require_number", "require_number", defArgs (top 33), defBody (top 33), defScope (top 33), [], []⟩
def d_require_within : He.DefD := ⟨("require_within", none), "require_within", "require_within", defArgs (top 34), defBody (top 34), defScope (top 34), [], []⟩
def d_require_power : He.DefD := ⟨("require_power", none), "require_power", "require_power", defArgs (top 35), defBody (top 35), defScope (top 35), [], []⟩
def d_power_paper : He.DefD := ⟨("power_paper", none), "power_paper", "power_paper", defArgs (top 36), defBody (top 36), defScope (top 36), [], []⟩
def d_is_power_paper : He.DefD := ⟨("is_power_paper", none), "is_power_paper", "is_power_paper", defArgs (top 37), defBody (top 37), defScope (top 37), [], []⟩
def d__law_dice : He.DefD := ⟨("_law_dice", none), "_law_dice", "_law_dice", defArgs (top 39), defBody (top 39), defScope (top 39), [], []⟩
def d__law_roll : He.DefD := ⟨("_law_roll", none), "_law_roll", "_law_roll", defArgs (top 40), defBody (top 40), defScope (top 40), [], []⟩
def d__law_one_of : He.DefD := ⟨("_law_one_of", none), "_law_one_of", "_law_one_of", defArgs (top 41), defBody (top 41), defScope (top 41), [], []⟩
def d__law_power : He.DefD := ⟨("_law_power", none), "_law_power", "_law_power", defArgs (top 42), defBody (top 42), defScope (top 42), [], []⟩
def d__law_gcd : He.DefD := ⟨("_law_gcd", none), "_law_gcd", "_law_gcd", defArgs (top 43), defBody (top 43), defScope (top 43), [], []⟩
def d__law_lowest : He.DefD := ⟨("_law_lowest", none), "_law_lowest", "_law_lowest", defArgs (top 44), defBody (top 44), defScope (top 44), [], []⟩
def d__law_exponent : He.DefD := ⟨("_law_exponent", none), "_law_exponent", "_law_exponent", defArgs (top 45), defBody (top 45), defScope (top 45), [], []⟩
def d__law_is_above : He.DefD := ⟨("_law_is_above", none), "_law_is_above", "_law_is_above", defArgs (top 46), defBody (top 46), defScope (top 46), [], []⟩
def d__law_split : He.DefD := ⟨("_law_split", none), "_law_split", "_law_split", defArgs (top 47), defBody (top 47), defScope (top 47), [], []⟩
def d__law_is_near_power : He.DefD := ⟨("_law_is_near_power", none), "_law_is_near_power", "_law_is_near_power", defArgs (top 48), defBody (top 48), defScope (top 48), [], []⟩
def d__law_is_root : He.DefD := ⟨("_law_is_root", none), "_law_is_root", "_law_is_root", defArgs (top 49), defBody (top 49), defScope (top 49), [], []⟩
def d__law_is_paper : He.DefD := ⟨("_law_is_paper", none), "_law_is_paper", "_law_is_paper", defArgs (top 50), defBody (top 50), defScope (top 50), [], []⟩
def d__law_number_drawn : He.DefD := ⟨("_law_number_drawn", none), "_law_number_drawn", "_law_number_drawn", defArgs (top 51), defBody (top 51), defScope (top 51), [], []⟩
def d__law_right : He.DefD := ⟨("_law_right", none), "_law_right", "_law_right", defArgs (top 52), defBody (top 52), defScope (top 52), [], []⟩
def d_law : He.DefD := ⟨("law", none), "law", "law", defArgs (top 53), defBody (top 53), defScope (top 53), [], []⟩
def fn : List He.DefD := ([d_is_whole_number, d_is_integer, d_is_within, d_is_ratio_any, d_is_number_any, d_is_number_in, d_power_of, d_exponent_in, d_pair_of, d_value_in, d_undone_in, d_unit_in, d_rest_in, d_power_level, d_rest_root, d_power_paper_in, d_is_power_root_in, d_is_power_paper_in, d_require_prime, d_require_number, d_require_within, d_require_power, d_power_paper, d_is_power_paper, d__law_dice] : List He.DefD) ++ ([d__law_roll, d__law_one_of, d__law_power, d__law_gcd, d__law_lowest, d__law_exponent, d__law_is_above, d__law_split, d__law_is_near_power, d__law_is_root, d__law_is_paper, d__law_number_drawn, d__law_right, d_law] : List He.DefD)
def fa : List He.Fa := ([.glo "is_whole_number", .glo "is_integer", .glo "is_within", .glo "is_ratio_any", .glo "is_number_any", .glo "is_number_in", .glo "power_of", .glo "exponent_in", .glo "pair_of", .glo "value_in", .glo "undone_in", .glo "unit_in", .glo "rest_in", .glo "power_level", .glo "rest_root", .glo "power_paper_in", .glo "is_power_root_in", .glo "is_power_paper_in", .glo "require_prime", .glo "require_number", .glo "require_within", .glo "require_power", .glo "power_paper", .glo "is_power_paper", .glo "_law_dice"] : List He.Fa) ++ ([.glo "_law_roll", .glo "_law_one_of", .glo "_law_power", .glo "_law_gcd", .glo "_law_lowest", .glo "_law_exponent", .glo "_law_is_above", .glo "_law_split", .glo "_law_is_near_power", .glo "_law_is_root", .glo "_law_is_paper", .glo "_law_number_drawn", .glo "_law_right", .glo "law", .free "abs", .free "all", .free "bool", .free "int", .free "isinstance", .free "len", .free "max", .free "min", .free "next", .free "range", .free "str"] : List He.Fa) ++ ([.free "tuple", .int "MAX_EXPONENT" (12), .int "MAX_LEVEL" (66), .int "PAIR" (2), .int "SIXTY" (1000000000000000000000000000000000000000000000000000000000000), .glo "PRIMES", .glo "VALUE", .str "RESTS" "rests", .str "ROOT" "root"] : List He.Fa)
def ck (K : PySem.W.Frag) : Bool := He.tupB K "PRIMES" [.int (2), .int (3), .int (5), .int (7)] && (He.tupB K "VALUE" [.str "value"] && (bltB K "gcd" "math.gcd" && (true)))
def gx : List Str := ["rest_root"]
theorem tx_of {K : PySem.W.Frag} {h : Heap} {mg : Str → Option Value} (X : K.In h) (G : h.Ns mainGlobals mg) (c : SaysF fa fn ck K) {base : Heap} {Tb : List (Addr × Str)} (gxd : ∀ x ∈ gx, GxD K mg base Tb x) : Tx K mg base Tb := by
  have z := c.check
  obtain ⟨k0, z⟩ := He.ba z
  obtain ⟨k1, z⟩ := He.ba z
  obtain ⟨k2, z⟩ := He.ba z
  exact ⟨He.free_ok X G (c.fact 39 (f := .free "abs") rfl),
    He.free_ok X G (c.fact 40 (f := .free "all") rfl),
    He.free_ok X G (c.fact 41 (f := .free "bool") rfl),
    He.free_ok X G (c.fact 42 (f := .free "int") rfl),
    He.free_ok X G (c.fact 43 (f := .free "isinstance") rfl),
    He.free_ok X G (c.fact 44 (f := .free "len") rfl),
    He.free_ok X G (c.fact 45 (f := .free "max") rfl),
    He.free_ok X G (c.fact 46 (f := .free "min") rfl),
    He.free_ok X G (c.fact 47 (f := .free "next") rfl),
    He.free_ok X G (c.fact 48 (f := .free "range") rfl),
    He.free_ok X G (c.fact 49 (f := .free "str") rfl),
    He.free_ok X G (c.fact 50 (f := .free "tuple") rfl),
    He.int_ok X G (c.fact 51 (f := .int "MAX_EXPONENT" (12)) rfl),
    He.int_ok X G (c.fact 52 (f := .int "MAX_LEVEL" (66)) rfl),
    He.int_ok X G (c.fact 53 (f := .int "PAIR" (2)) rfl),
    He.int_ok X G (c.fact 54 (f := .int "SIXTY" (1000000000000000000000000000000000000000000000000000000000000)) rfl),
    He.glo_ok X G (c.fact 55 (f := .glo "PRIMES") rfl),
    fun H => He.tupB_ok k0 H,
    He.glo_ok X G (c.fact 56 (f := .glo "VALUE") rfl),
    fun H => He.tupB_ok k1 H,
    He.str_ok X G (c.fact 57 (f := .str "RESTS" "rests") rfl),
    He.str_ok X G (c.fact 58 (f := .str "ROOT" "root") rfl),
    bltB_ok X G k2,
    gxd "rest_root" (by decide)⟩
theorem dx_of {K : PySem.W.Frag} {h : Heap} {mg : Str → Option Value} (X : K.In h) (G : h.Ns mainGlobals mg) (c : SaysF fa fn ck K) : Dx K mg :=
  ⟨(let ⟨fd, F⟩ := c.def_ 0 (d := d_is_whole_number) rfl; ⟨fd, F, He.glo_ok X G (c.fact 0 (f := .glo "is_whole_number") rfl)⟩),
    (let ⟨fd, F⟩ := c.def_ 1 (d := d_is_integer) rfl; ⟨fd, F, He.glo_ok X G (c.fact 1 (f := .glo "is_integer") rfl)⟩),
    (let ⟨fd, F⟩ := c.def_ 2 (d := d_is_within) rfl; ⟨fd, F, He.glo_ok X G (c.fact 2 (f := .glo "is_within") rfl)⟩),
    (let ⟨fd, F⟩ := c.def_ 3 (d := d_is_ratio_any) rfl; ⟨fd, F, He.glo_ok X G (c.fact 3 (f := .glo "is_ratio_any") rfl)⟩),
    (let ⟨fd, F⟩ := c.def_ 4 (d := d_is_number_any) rfl; ⟨fd, F, He.glo_ok X G (c.fact 4 (f := .glo "is_number_any") rfl)⟩),
    (let ⟨fd, F⟩ := c.def_ 5 (d := d_is_number_in) rfl; ⟨fd, F, He.glo_ok X G (c.fact 5 (f := .glo "is_number_in") rfl)⟩),
    (let ⟨fd, F⟩ := c.def_ 6 (d := d_power_of) rfl; ⟨fd, F, He.glo_ok X G (c.fact 6 (f := .glo "power_of") rfl)⟩),
    (let ⟨fd, F⟩ := c.def_ 7 (d := d_exponent_in) rfl; ⟨fd, F, He.glo_ok X G (c.fact 7 (f := .glo "exponent_in") rfl)⟩),
    (let ⟨fd, F⟩ := c.def_ 8 (d := d_pair_of) rfl; ⟨fd, F, He.glo_ok X G (c.fact 8 (f := .glo "pair_of") rfl)⟩),
    (let ⟨fd, F⟩ := c.def_ 9 (d := d_value_in) rfl; ⟨fd, F, He.glo_ok X G (c.fact 9 (f := .glo "value_in") rfl)⟩),
    (let ⟨fd, F⟩ := c.def_ 10 (d := d_undone_in) rfl; ⟨fd, F, He.glo_ok X G (c.fact 10 (f := .glo "undone_in") rfl)⟩),
    (let ⟨fd, F⟩ := c.def_ 11 (d := d_unit_in) rfl; ⟨fd, F, He.glo_ok X G (c.fact 11 (f := .glo "unit_in") rfl)⟩),
    (let ⟨fd, F⟩ := c.def_ 12 (d := d_rest_in) rfl; ⟨fd, F, He.glo_ok X G (c.fact 12 (f := .glo "rest_in") rfl)⟩),
    (let ⟨fd, F⟩ := c.def_ 13 (d := d_power_level) rfl; ⟨fd, F, He.glo_ok X G (c.fact 13 (f := .glo "power_level") rfl)⟩),
    (let ⟨fd, F⟩ := c.def_ 14 (d := d_rest_root) rfl; ⟨fd, F, He.glo_ok X G (c.fact 14 (f := .glo "rest_root") rfl)⟩),
    (let ⟨fd, F⟩ := c.def_ 15 (d := d_power_paper_in) rfl; ⟨fd, F, He.glo_ok X G (c.fact 15 (f := .glo "power_paper_in") rfl)⟩),
    (let ⟨fd, F⟩ := c.def_ 16 (d := d_is_power_root_in) rfl; ⟨fd, F, He.glo_ok X G (c.fact 16 (f := .glo "is_power_root_in") rfl)⟩),
    (let ⟨fd, F⟩ := c.def_ 17 (d := d_is_power_paper_in) rfl; ⟨fd, F, He.glo_ok X G (c.fact 17 (f := .glo "is_power_paper_in") rfl)⟩),
    (let ⟨fd, F⟩ := c.def_ 18 (d := d_require_prime) rfl; ⟨fd, F, He.glo_ok X G (c.fact 18 (f := .glo "require_prime") rfl)⟩),
    (let ⟨fd, F⟩ := c.def_ 19 (d := d_require_number) rfl; ⟨fd, F, He.glo_ok X G (c.fact 19 (f := .glo "require_number") rfl)⟩),
    (let ⟨fd, F⟩ := c.def_ 20 (d := d_require_within) rfl; ⟨fd, F, He.glo_ok X G (c.fact 20 (f := .glo "require_within") rfl)⟩),
    (let ⟨fd, F⟩ := c.def_ 21 (d := d_require_power) rfl; ⟨fd, F, He.glo_ok X G (c.fact 21 (f := .glo "require_power") rfl)⟩),
    (let ⟨fd, F⟩ := c.def_ 22 (d := d_power_paper) rfl; ⟨fd, F, He.glo_ok X G (c.fact 22 (f := .glo "power_paper") rfl)⟩),
    (let ⟨fd, F⟩ := c.def_ 23 (d := d_is_power_paper) rfl; ⟨fd, F, He.glo_ok X G (c.fact 23 (f := .glo "is_power_paper") rfl)⟩),
    (let ⟨fd, F⟩ := c.def_ 24 (d := d__law_dice) rfl; ⟨fd, F, He.glo_ok X G (c.fact 24 (f := .glo "_law_dice") rfl)⟩),
    (let ⟨fd, F⟩ := c.def_ 25 (d := d__law_roll) rfl; ⟨fd, F, He.glo_ok X G (c.fact 25 (f := .glo "_law_roll") rfl)⟩),
    (let ⟨fd, F⟩ := c.def_ 26 (d := d__law_one_of) rfl; ⟨fd, F, He.glo_ok X G (c.fact 26 (f := .glo "_law_one_of") rfl)⟩),
    (let ⟨fd, F⟩ := c.def_ 27 (d := d__law_power) rfl; ⟨fd, F, He.glo_ok X G (c.fact 27 (f := .glo "_law_power") rfl)⟩),
    (let ⟨fd, F⟩ := c.def_ 28 (d := d__law_gcd) rfl; ⟨fd, F, He.glo_ok X G (c.fact 28 (f := .glo "_law_gcd") rfl)⟩),
    (let ⟨fd, F⟩ := c.def_ 29 (d := d__law_lowest) rfl; ⟨fd, F, He.glo_ok X G (c.fact 29 (f := .glo "_law_lowest") rfl)⟩),
    (let ⟨fd, F⟩ := c.def_ 30 (d := d__law_exponent) rfl; ⟨fd, F, He.glo_ok X G (c.fact 30 (f := .glo "_law_exponent") rfl)⟩),
    (let ⟨fd, F⟩ := c.def_ 31 (d := d__law_is_above) rfl; ⟨fd, F, He.glo_ok X G (c.fact 31 (f := .glo "_law_is_above") rfl)⟩),
    (let ⟨fd, F⟩ := c.def_ 32 (d := d__law_split) rfl; ⟨fd, F, He.glo_ok X G (c.fact 32 (f := .glo "_law_split") rfl)⟩),
    (let ⟨fd, F⟩ := c.def_ 33 (d := d__law_is_near_power) rfl; ⟨fd, F, He.glo_ok X G (c.fact 33 (f := .glo "_law_is_near_power") rfl)⟩),
    (let ⟨fd, F⟩ := c.def_ 34 (d := d__law_is_root) rfl; ⟨fd, F, He.glo_ok X G (c.fact 34 (f := .glo "_law_is_root") rfl)⟩),
    (let ⟨fd, F⟩ := c.def_ 35 (d := d__law_is_paper) rfl; ⟨fd, F, He.glo_ok X G (c.fact 35 (f := .glo "_law_is_paper") rfl)⟩),
    (let ⟨fd, F⟩ := c.def_ 36 (d := d__law_number_drawn) rfl; ⟨fd, F, He.glo_ok X G (c.fact 36 (f := .glo "_law_number_drawn") rfl)⟩),
    (let ⟨fd, F⟩ := c.def_ 37 (d := d__law_right) rfl; ⟨fd, F, He.glo_ok X G (c.fact 37 (f := .glo "_law_right") rfl)⟩),
    (let ⟨fd, F⟩ := c.def_ 38 (d := d_law) rfl; ⟨fd, F, He.glo_ok X G (c.fact 38 (f := .glo "law") rfl)⟩)⟩
abbrev Rw : PySem.W.OpenRow := PySem.W.OpenLaw.row PySem.Challenge.rw_wildsteps_k02_whole_powers_or_papers
abbrev hk : PySem.W.Hook := hookT 5 fa fn ck gx
def ob (s : PySem.W.SharedT) : He.AlD × Bool := obsTG 5 fa fn ck gx (HandSHeadRun.getT s)
theorem ob_eq (s : PySem.W.SharedT) : ob s = hk.obs s.abs := obsTG_eq (HandSHeadRun.getT_eq s)
def loose : List PySem.Str := (["WildError", "InvalidOperation", "InvalidNumber", "PRIMES", "MAX_LEVEL", "MAX_EXPONENT", "PAIR", "SIXTY", "ROOT", "RESTS", "VALUE", "is_whole_number", "is_integer", "is_within", "is_ratio_any", "is_number_any", "is_number_in", "power_of", "exponent_in", "pair_of", "value_in", "undone_in", "unit_in", "rest_in", "power_level", "rest_root", "power_paper_in", "is_power_root_in", "is_power_paper_in", "require_prime"] : List PySem.Str) ++ (["require_number", "require_within", "require_power", "power_paper", "is_power_paper", "_law_dice", "_law_roll", "_law_one_of", "_law_power", "_law_gcd", "_law_lowest", "_law_exponent", "_law_is_above", "_law_split", "_law_is_near_power", "_law_is_root", "_law_is_paper", "_law_number_drawn", "_law_right"] : List PySem.Str)
theorem run (w : World) : HandSHeadRun.RunEqI Rw (PySem.W.view Rw.prog [0, 53]) hk ob 30000 loose w := by
  unfold HandSHeadRun.RunEqI
  kernel_rfl
end LW
open PySem PySem.W PySem.Calls PyProof.Rows
theorem LW.holds_of (law_true : ∀ ns : List Int, ns.length ≤ 63 → ∃ S, LW.m_law [.frz (ns.map FX.IV.int)] ⟨0, []⟩ = .ok (.bl true) S) : PySem.Challenge.rw_wildsteps_k02_whole_powers_or_papers.Holds := by
  w_on; o_law
  refine HandSHeadRun.head_imp (r := OpenLaw.row PySem.Challenge.rw_wildsteps_k02_whole_powers_or_papers) (q := view (OpenLaw.row PySem.Challenge.rw_wildsteps_k02_whole_powers_or_papers).prog [0, 53]) (H := LW.hk) (ob := LW.ob) (M := 30000) (loose := LW.loose) (d := HandSHeadRun.topDef (OpenLaw.row PySem.Challenge.rw_wildsteps_k02_whole_powers_or_papers).prog 53) (kwd := []) LW.ob_eq
    LW.run (by kernel_rfl) (by kernel_rfl) (by kernel_rfl) (by rfl) (by first | assumption | decide +kernel) (by decide +kernel) ⟨rfl, rfl, rfl, rfl, rfl, by decide +kernel⟩ ?hw ?hc
  case hw => w_witness2
  case hc =>
    refine FX.walk_tabs (l := PySem.Challenge.rw_wildsteps_k02_whole_powers_or_papers) (n := 63) (k := 8) (x := "_law_script") rfl (by decide) (by kernel_rfl) ⟨rfl, by decide, by decide⟩ ?F
    intro w mg fa h Y G hmg0
    obtain ⟨K, KX, c, hT⟩ := (show ∃ K : PySem.W.Frag, K.In h ∧ FX.SaysF LW.fa LW.fn LW.ck K ∧ FX.TabsH h K LW.gx from Y)
    obtain ⟨f, t1, t2⟩ := hT
    have hmg : mg ("law" : PySem.Str) = some (.ref fa) := by
      have e : (HandSHeadRun.topDef (OpenLaw.row PySem.Challenge.rw_wildsteps_k02_whole_powers_or_papers).prog 53).name = ("law" : PySem.Str) := by kernel_rfl
      rw [← e]
      exact hmg0
    have D := LW.dx_of KX G c
    obtain ⟨fd0, F0, hm0⟩ := D.d_law
    have e := hmg.symm.trans hm0
    cases e
    have b := L2.FunD.bindsA (ps := ["_law_script"]) F0 fun _ _ _ _ _ _ us hl => match us, hl with | [_], _ => rfl
    refine ⟨K, fd0, LW.CW K (LW.gx.map fun x => ((f x).2, FX.gq x)), LW.gx.map f, KX, rfl, fun p hp => ?_, fun p hp => ?_, fun p hp => ?_, fun s v => b s [v] rfl, fun p hp => ?_, fun base _ _ tb => FX.lawT_fn law_true (LW.k_law (LW.tx_of KX G c (FX.gxD_of t1 t2 tb)) D F0)⟩
    · obtain ⟨x, hx, rfl⟩ := List.mem_map.mp hp
      exact (t1 x hx).nil
    · obtain ⟨x, hx, rfl⟩ := List.mem_map.mp hp
      exact (t1 x hx).out
    · obtain ⟨x, hx, rfl⟩ := List.mem_map.mp hp
      exact (t1 x hx).hd
    · obtain ⟨x, hx, rfl⟩ := List.mem_map.mp hp
      exact ⟨(f x).1, List.mem_map.mpr ⟨x, hx, rfl⟩⟩

set_option Elab.async false
set_option linter.all false
set_option maxRecDepth 100000
set_option maxHeartbeats 2000000
set_option autoImplicit false
set_option pp.maxSteps 900
namespace P02
open PySem PySem.Spec PyProof.Rows L2 FX FX.Ar
local macro_rules | `(tactic| sizeOf_list_dec) => `(tactic| first | exact SetL.zero | (apply SetL.succ; sizeOf_list_dec) | (apply BindL.name; sizeOf_list_dec) | (apply BindL.tup; sizeOf_list_dec) | exact BindLs.nil | (apply BindLs.cons <;> sizeOf_list_dec))
local macro_rules | `(tactic| array_get_dec) => `(tactic| first
  | with_reducible refine wp_mB ?_
  | ((with_reducible apply wp_mV); rfl)
  | with_reducible refine wp_mC ?_
  | with_reducible refine wf_seq ?_
  | with_reducible refine wf_set ?_
  | ((with_reducible apply ex_set); sizeOf_list_dec)
  | ((with_reducible apply ex_bind); sizeOf_list_dec)
  | ((with_reducible apply ex_bindT); sizeOf_list_dec)
  | with_reducible refine kt_nx ?_
  | with_reducible refine wp_mCons ?_
  | with_reducible refine wp_mNil ?_
  | with_reducible refine wp_mCallO ?_
  | with_reducible refine wp_mCall ?_
  | with_reducible refine wp_add ?_
  | with_reducible refine wp_sub ?_
  | with_reducible refine wp_cmp ?_
  | with_reducible refine wp_eqI ?_
  | with_reducible refine wp_neI ?_
  | with_reducible refine ⟨_, rfl, ?_⟩
  | with_reducible refine cnd_t ?_
  | with_reducible refine cnd_f ?_
  | with_reducible refine cnd_not ?_
  | with_reducible refine cnd_nonT ?_
  | with_reducible refine cnd_nonI ?_
  | with_reducible refine cnd_nonU ?_
  | ((with_reducible apply cnd_isBt); rfl)
  | ((with_reducible apply cnd_isBf); rfl)
  | with_reducible refine wp_mTB ?_
  | with_reducible refine wf_if ?_
  | with_reducible refine wf_ret ?_
  | with_reducible refine kt_rt ?_
  | with_reducible refine kf_rt ?_
  | with_reducible refine kf_nx ?_
  | with_reducible refine kl_nx ?_
  | with_reducible refine kl_rt ?_
  | with_reducible refine wf_drop ?_
  | with_reducible refine wf_skip ?_
  | with_reducible refine wf_asg ?_
  | with_reducible refine wp_mTup ?_
  | with_reducible refine wp_mLst ?_
  | ((with_reducible refine ⟨?_, ?_⟩); exact fullLen_of (by simp only [List.length_cons, List.length_nil]; decide))
  | ((with_reducible refine wp_mul ?_ ?_); first | assumption | rfl)
  | ((with_reducible refine wp_div ?_ ?_); first | assumption | rfl)
  | ((with_reducible refine wp_divS ?_ ?_ ?_); first | assumption | omega; first | assumption | omega)
  | ((with_reducible refine wp_mod ?_ ?_); first | assumption | omega)
  | with_reducible refine wp_neg ?_
  | with_reducible refine wp_notV ?_
  | with_reducible refine wp_mU ?_
  | ((with_reducible refine wp_pow ?_ ?_); first | assumption | rfl)
  | (with_reducible refine wf_par ?_)
  | (with_reducible refine wf_par3 ?_)
  | ((with_reducible apply ex_par); sizeOf_list_dec; sizeOf_list_dec)
  | ((with_reducible apply ex_par3); sizeOf_list_dec; sizeOf_list_dec; sizeOf_list_dec)
  | ((with_reducible apply wf_aug); rfl)
  | with_reducible refine wp_addI ?_
  | with_reducible refine wp_mTru ?_
  | with_reducible refine wp_mAndT ?_
  | with_reducible refine wp_mOrT ?_
  | with_reducible refine wp_mNotT ?_
  | with_reducible refine wp_mYes ?_
  | with_reducible refine wp_mAndV ?_
  | with_reducible refine wp_mOrV ?_
  | with_reducible refine wp_mIf ?_
  | with_reducible refine wp_mChain ?_
  | with_reducible refine wp_mInR ?_
  | with_reducible refine wp_inRt ?_
  | with_reducible refine wp_inRf ?_
  | with_reducible refine wp_isN ?_
  | with_reducible refine wp_notN ?_
  | ((with_reducible apply wp_ixT); rfl)
  | ((with_reducible apply wp_ixL); assumption; rfl)
  | with_reducible refine wp_lenT ?_
  | with_reducible refine wp_lenF ?_
  | ((with_reducible apply wp_lenL); assumption)
  | with_reducible refine wp_abs ?_
  | with_reducible refine wp_int ?_
  | with_reducible refine wp_intB ?_
  | with_reducible refine wp_max ?_
  | with_reducible refine wp_min ?_
  | with_reducible refine wp_gcd ?_
  | with_reducible refine wp_tupT ?_
  | ((with_reducible apply wp_tupL); assumption)
  | with_reducible refine wp_listT ?_
  | ((with_reducible apply wp_isI); rfl; rfl)
  | with_reducible refine wp_mMet ?_
  | with_reducible refine wp_mSl ?_
  | with_reducible refine wp_mP ?_
  | with_reducible refine wp_mNoP ?_
  | with_reducible refine wp_slT ?_
  | with_reducible refine wp_revT ?_
  | with_reducible refine wf_for ?_
  | with_reducible refine wp_mWk ?_
  | with_reducible refine wp_seqT ?_
  | with_reducible refine wp_enumT ?_
  | with_reducible refine wp_lc ?_
  | with_reducible refine wf_brk ?_
  | with_reducible refine wf_cont ?_
  | with_reducible refine wf_retN ?_
  | with_reducible refine kl_ct ?_
  | with_reducible refine kl_bk ?_
  | with_reducible refine kt_bk ?_
  | with_reducible refine kt_ct ?_
  | with_reducible refine kt_ex ?_
  | with_reducible refine kl_ex ?_
  | with_reducible refine kf_ex ?_
  | with_reducible refine km_nx ?_
  | with_reducible refine km_rt ?_
  | ((with_reducible refine wp_mulI ?_ ?_); first | assumption | rfl)
  | with_reducible refine wp_dnew ?_)
def Pr (p : Nat) : Prop := p = 2 ∨ p = 3 ∨ p = 5 ∨ p = 7
theorem Pr.two {p : Nat} (h : Pr p) : 2 ≤ p ∧ p < 8 := by rcases h with rfl | rfl | rfl | rfl <;> decide
theorem Pr.pr {p : Nat} (h : Pr p) : IsPr p := by
  have key : ∀ q ∈ [2, 3, 5, 7], 2 ≤ q ∧ ∀ d ∈ List.range (q + 1), q % d = 0 → d = 1 ∨ d = q := by decide
  have all : ∀ q ∈ [2, 3, 5, 7], IsPr q := fun q hq => ⟨(key q hq).1, fun d hd => (key q hq).2 d (List.mem_range.mpr (by have := Nat.le_of_dvd (by have := (key q hq).1; omega) hd; omega)) (Nat.mod_eq_zero_of_dvd hd)⟩
  rcases h with rfl | rfl | rfl | rfl <;> exact all _ (by decide)
/-- v tells the ratio a / b -/
def Num (v : IV) (a : Int) (b : Nat) : Prop := v = .tup [.int a, .int b] ∨ (v = .int a ∧ b = 1)
theorem Num.flat {v : IV} {a : Int} {b : Nat} (h : Num v a b) : flatR v = true := by
  rcases h with rfl | ⟨rfl, rfl⟩ <;> rfl
theorem pair_ok {v : IV} {a : Int} {b : Nat} (h : Num v a b) (S : Sto) : own LW.m_pair_of [v] S = .ok (.tup [.int a, .int b]) S := by
  rcases h with rfl | ⟨rfl, rfl⟩
  · exact own_flat (S' := ⟨0, []⟩) rfl rfl rfl S
  · exact own_flat (S' := ⟨0, []⟩) rfl rfl rfl S
theorem log_lt {n M : Nat} (h0 : n ≠ 0) (h : n < 2 ^ M) (hM : M < 40000) : n.log2 < 40000 := Nat.lt_trans ((Nat.log2_lt h0).mpr h) hM
theorem ex_ok {p : Nat} (hp : Pr p) {n : Int} (h0 : n ≠ 0) {M : Nat} (h : n.natAbs < 2 ^ M) (hM : M < 40000) (S : Sto) : own LW.m_exponent_in [.int p, .int n] S = .ok (.int (expo p n.natAbs : Nat)) S :=
  own_flat rfl (exp_int p n ⟨0, []⟩ hp.two.1 h0 (log_lt (by omega) h hM) (by have := hp.two; omega)) rfl S
theorem lex_ok {p : Nat} (hp : Pr p) {n : Int} (h0 : n ≠ 0) {M : Nat} (h : n.natAbs < 2 ^ M) (hM : M < 40000) (S : Sto) : own LW.m__law_exponent [.int p, .int n] S = .ok (.int (expo p n.natAbs : Nat)) S :=
  own_flat rfl (lexp_int p n ⟨0, []⟩ hp.two.1 h0 (log_lt (by omega) h hM) (by have := hp.two; omega)) rfl S
theorem value_ok {p : Nat} {v : IV} {a : Int} {b : Nat} (h : Num v a b) (hp : Pr p) (ha : a ≠ 0) (hb : b ≠ 0) (hA : a.natAbs < 2 ^ 1000) (hB : b < 2 ^ 1000) (S : Sto) :
    LW.m_value_in [.int p, v] S = .ok (.int ((expo p a.natAbs : Int) - (expo p b : Int))) S := by
  refine mDef_rt (E := [some (.int p), some v, none, none]) rfl ?_
  unfold LW.b_value_in
  refine (mSeq_nx (E1 := [some (.int p), some v, some (.int a), some (.int b)]) (mAsg_ok (mCallO_ok (mCons_ok rfl mNil_ok) (pair_ok h S)) rfl)).trans ?_
  have hf : mTB (mB fEq (mV 2) (mC (.int 0))) [some (.int p), some v, some (.int a), some (.int b)] S = .ok false S := by
    refine mTB_ok (mB_ok rfl rfl (fEq_int.trans ?_))
    rw [decide_eq_false ha]
  exact mRet_ok (mIf_f hf (mB_ok (mCallO_ok (mCons_ok rfl (mCons_ok rfl mNil_ok)) (ex_ok hp ha hA (by decide) S)) (mCallO_ok (mCons_ok rfl (mCons_ok rfl mNil_ok)) (ex_ok hp (n := (b : Int)) (by omega) hB (by decide) S)) rfl))
theorem rest_ok {p level : Nat} {v : IV} {a : Int} {b : Nat} (h : Num v a b) (hp : 2 ≤ p) (hp2 : p < 8) (hl : level ≤ 66) (hg : Nat.gcd (b % p ^ level) (p ^ level) = 1) (hA : a.natAbs < 2 ^ 1000) (S : Sto) :
    ∃ r : Nat, LW.m_rest_in [.int p, v, .int level] S = .ok (.int r) S ∧ r < p ^ level ∧ ((p ^ level : Nat) : Int) ∣ (r : Int) * b - a := by
  have hpl : p ^ level < 2 ^ (3 * 66 + 1) := by
    have h1 : p ^ level ≤ (2 ^ 3) ^ level := Nat.pow_le_pow_left (by omega) level
    have h2 : (2 ^ 3) ^ level = 2 ^ (3 * level) := (Nat.pow_mul 2 3 level).symm
    have h3 : 2 ^ (3 * level) < 2 ^ (3 * 66 + 1) := Nat.pow_lt_pow_right (by decide) (by omega)
    omega
  have hM1 : 1 ≤ p ^ level := Nat.pow_pos (by omega)
  have hpw := own_flat (as := [.int (p : Int), .int (level : Int)]) rfl (power_of_ok p level (3 * 66 + 1) ⟨0, []⟩ (by omega) hpl (by decide) (by omega)) rfl S
  generalize hM : p ^ level = M at *
  have hgM : Nat.gcd ((b : Int) % (M : Int)).toNat M = 1 := by
    have : ((b : Int) % (M : Int)).toNat = b % M := by
      have e : (b : Int) % (M : Int) = ((b % M : Nat) : Int) := rfl
      rw [e, Int.toNat_natCast]
    rw [this]
    exact hg
  obtain ⟨u, hu, hu1, hu2⟩ := undone_ok (b : Int) M (3 * 66 + 1) ⟨0, []⟩ hM1 hpl (by decide) hgM
  have hun := own_flat (f := LW.m_undone_in) (as := [.int (b : Int), .int (M : Int)]) rfl hu rfl S
  have hMz : (M : Int) ≠ 0 := by omega
  have hr0 : 0 ≤ (a * (u : Int)) % (M : Int) := Int.emod_nonneg _ hMz
  have hr1 : (a * (u : Int)) % (M : Int) < M := Int.emod_lt_of_pos _ (by omega)
  have hmul : fMul (.int a) (.int u) S = .ok (.int (a * (u : Int))) S := by
    show okI (mulFit a (u : Int)) _ S = _
    have hu9 : (u : Int).natAbs < 2 ^ (3 * 66 + 1) := by
      rw [Int.natAbs_natCast]
      exact Nat.lt_trans hu1 hpl
    rw [mulFit_of (a := 1000) (b := 3 * 66 + 1) hA hu9 (by decide)]
    rfl
  refine ⟨((a * (u : Int)) % (M : Int)).toNat, ?_, by omega, ?_⟩
  · refine mDef_rt (E := [some (.int p), some v, some (.int level), none, none, none]) rfl ?_
    unfold LW.b_rest_in
    refine (mSeq_nx (E1 := [some (.int p), some v, some (.int level), some (.int a), some (.int b), none]) (mAsg_ok (mCallO_ok (mCons_ok rfl mNil_ok) (pair_ok h S)) rfl)).trans ?_
    refine (mSeq_nx (E1 := [some (.int p), some v, some (.int level), some (.int a), some (.int b), some (.int M)]) (mSet_ok (mCallO_ok (mCons_ok rfl (mCons_ok rfl mNil_ok)) hpw))).trans ?_
    rw [Int.toNat_of_nonneg hr0]
    exact mRet_ok (mB_ok (mB_ok rfl (mCallO_ok (mCons_ok rfl (mCons_ok rfl mNil_ok)) hun) hmul) rfl (fmod_int _ M (by omega) S))
  · rw [Int.toNat_of_nonneg hr0]
    have e : a * (u : Int) % (M : Int) * (b : Int) - a = a * ((u : Int) * (b : Int) - 1) - (a * (u : Int) - a * (u : Int) % (M : Int)) * (b : Int) := by
      rw [Int.sub_mul, Int.mul_sub, Int.mul_assoc]
      omega
    rw [e]
    exact Int.dvd_sub (Int.dvd_mul_of_dvd_right hu2) (Int.dvd_mul_of_dvd_left (dvd_sub_emod _ _))
theorem primes_ok : (isR .non (LW.m_require_prime [.int 2] ⟨0, []⟩) && isR .non (LW.m_require_prime [.int 3] ⟨0, []⟩) && isR .non (LW.m_require_prime [.int 5] ⟨0, []⟩) && isR .non (LW.m_require_prime [.int 7] ⟨0, []⟩)) = true := by decide +kernel
theorem req_prime {p : Nat} (h : Pr p) (S : Sto) : own LW.m_require_prime [.int p] S = .ok .non S := by
  have hb := primes_ok
  simp only [Bool.and_eq_true] at hb
  rcases h with rfl | rfl | rfl | rfl
  · obtain ⟨S', e⟩ := isR_eq hb.1.1.1
    exact own_flat rfl e rfl S
  · obtain ⟨S', e⟩ := isR_eq hb.1.1.2
    exact own_flat rfl e rfl S
  · obtain ⟨S', e⟩ := isR_eq hb.1.2
    exact own_flat rfl e rfl S
  · obtain ⟨S', e⟩ := isR_eq hb.2
    exact own_flat rfl e rfl S
/-- a told number that the program takes -/
structure NumOk (v : IV) (a : Int) (b : Nat) : Prop where
  num : Num v a b
  pos : 0 < b
  low : Nat.gcd a.natAbs b = 1
  top : a.natAbs < 10 ^ 60
  bot : b < 10 ^ 60
theorem NumOk.number {v : IV} {a : Int} {b : Nat} (h : NumOk v a b) (S : Sto) : own LW.m_is_number_in [v] S = .ok (.bl true) S := by
  rcases h.num with rfl | ⟨rfl, hb⟩
  · obtain ⟨S', e⟩ := number_tup a b h.pos h.low h.top h.bot ⟨0, []⟩
    exact own_flat (f := LW.m_is_number_in) rfl e rfl S
  · exact own_flat (f := LW.m_is_number_in) rfl (number_int a h.top ⟨0, []⟩) rfl S
theorem req_number {v : IV} {a : Int} {b : Nat} (h : NumOk v a b) (S : Sto) : own LW.m_require_number [v] S = .ok .non S := by
  have hf : flatRs [v] = true := by show (flatR v && true) = true; rw [h.num.flat]; rfl
  refine own_flat (S' := ⟨0, []⟩) hf ?_ rfl S
  refine mDef_nx (E := [some v]) (E' := [some v]) rfl ?_
  unfold LW.b_require_number
  exact mIfS_f (mNotT_ok (c := true) (mTru_bl (mCallO_ok (mCons_ok rfl mNil_ok) (h.number _))))
theorem req_within (i lo hi : Int) (h1 : lo ≤ i) (h2 : i ≤ hi) (S : Sto) : own LW.m_require_within [.int i, .int lo, .int hi] S = .ok .non S := by
  refine own_flat (S' := ⟨0, []⟩) rfl ?_ rfl S
  refine mDef_nx (E := [some (.int i), some (.int lo), some (.int hi)]) (E' := [some (.int i), some (.int lo), some (.int hi)]) rfl ?_
  unfold LW.b_require_within
  exact mIfS_f (mNotT_ok (c := true) (mTru_bl (mCallO_ok (vs := [.int i, .int lo, .int hi]) (mCons_ok rfl (mCons_ok rfl (mCons_ok rfl mNil_ok))) (own_flat (f := LW.m_is_within) rfl (within_ok i lo hi h1 h2 ⟨0, []⟩) rfl _))))
theorem expo_zero {p b : Nat} (h : b % p ≠ 0) : expo p b = 0 := by
  unfold expo expoF
  rw [if_neg h]
theorem cop1 {p b : Nat} (hp : Pr p) (h : b % p ≠ 0) : Nat.gcd p b = 1 := by
  rw [Nat.gcd_rec]
  have hl : b % p < p := Nat.mod_lt _ (by have := hp.two; omega)
  generalize b % p = c at *
  have key : ∀ q ∈ [2, 3, 5, 7], ∀ c < q, c ≠ 0 → Nat.gcd c q = 1 := by decide
  rcases hp with rfl | rfl | rfl | rfl
  · exact key 2 (by decide) c hl h
  · exact key 3 (by decide) c hl h
  · exact key 5 (by decide) c hl h
  · exact key 7 (by decide) c hl h
theorem cop {p b : Nat} (hp : Pr p) (h : b % p ≠ 0) (l : Nat) : Nat.gcd (b % p ^ l) (p ^ l) = 1 := by
  rw [← Nat.gcd_rec]
  exact Nat.Coprime.pow_left l (cop1 hp h)
theorem big {a : Nat} (h : a < 10 ^ 60) : a < 2 ^ 1000 := Nat.lt_trans h (by decide)
theorem pwx {p n : Nat} (hp : Pr p) (hn : n ≤ 300) (S : Sto) : own LW.m_power_of [.int p, .int n] S = .ok (.int ((p ^ n : Nat) : Int)) S := by
  have h2 := hp.two
  have hpl : p ^ n < 2 ^ (3 * 300 + 1) := by
    have h1 : p ^ n ≤ (2 ^ 3) ^ n := Nat.pow_le_pow_left (by omega) n
    have h3 : (2 ^ 3) ^ n = 2 ^ (3 * n) := (Nat.pow_mul 2 3 n).symm
    have h4 : 2 ^ (3 * n) < 2 ^ (3 * 300 + 1) := Nat.pow_lt_pow_right (by decide) (by omega)
    omega
  exact own_flat (f := LW.m_power_of) rfl (power_of_ok p n (3 * 300 + 1) ⟨0, []⟩ (by omega) hpl (by decide) (by omega)) rfl S
theorem expoF_le' (p : Nat) : ∀ n m, expoF n p m ≤ n
  | 0, _ => Nat.le_refl _
  | n + 1, m => by
    have := expoF_le' p n (m / p)
    unfold expoF
    split <;> omega
theorem expo_le' {p k a : Nat} (h : k < 2 ^ a) (h0 : k ≠ 0) : expo p k ≤ a := by
  have h1 : k.log2 < a := (Nat.log2_lt h0).mpr h
  exact Nat.le_trans (expoF_le' p _ _) h1
theorem pw_fit {p n : Nat} (hp : Pr p) (hn : n ≤ 300) : divFit ((p ^ n : Nat) : Int) = true := by
  have h2 := hp.two
  have h0 : 0 < p ^ n := Nat.pow_pos (by omega)
  have h1 : p ^ n ≤ (2 ^ 3) ^ n := Nat.pow_le_pow_left (by omega) n
  have h3 : (2 ^ 3) ^ n = 2 ^ (3 * n) := (Nat.pow_mul 2 3 n).symm
  have h4 : 2 ^ (3 * n) < 2 ^ (3 * 300 + 1) := Nat.pow_lt_pow_right (by decide) (by omega)
  exact divFit_of (a := 3 * 300 + 1) (by omega) (by rw [Int.natAbs_natCast]; omega) (by decide)
theorem lpwx {p n : Nat} (hp : Pr p) (hn : n ≤ 300) (S : Sto) : own LW.m__law_power [.int p, .int n] S = .ok (.int ((p ^ n : Nat) : Int)) S := by
  have h2 := hp.two
  have hpl : p ^ n < 2 ^ (3 * 300 + 1) := by
    have h1 : p ^ n ≤ (2 ^ 3) ^ n := Nat.pow_le_pow_left (by omega) n
    have h3 : (2 ^ 3) ^ n = 2 ^ (3 * n) := (Nat.pow_mul 2 3 n).symm
    have h4 : 2 ^ (3 * n) < 2 ^ (3 * 300 + 1) := Nat.pow_lt_pow_right (by decide) (by omega)
    omega
  exact own_flat (f := LW.m__law_power) rfl (lpow_ok p n (3 * 300 + 1) ⟨0, []⟩ (by omega) hpl (by decide) (by omega)) rfl S
theorem unit_ok {p : Nat} {v : IV} {a : Int} {b : Nat} (hp : Pr p) (h : NumOk v a b) (ha : a ≠ 0) (S : Sto) :
    own LW.m_unit_in [.int p, v] S = .ok (.tup [.int (a / ((p ^ expo p a.natAbs : Nat) : Int)), .int ((b : Int) / ((p ^ expo p b : Nat) : Int))]) S := by
  have h2 := hp.two
  have hbp := h.pos
  have hf : flatRs [.int (p : Int), v] = true := by show (flatR v && true) = true; rw [h.num.flat]; rfl
  have e1 : expo p a.natAbs ≤ 200 := expo_le' (Nat.lt_trans h.top (by decide)) (by omega)
  have e2 : expo p b ≤ 200 := expo_le' (Nat.lt_trans h.bot (by decide)) (by omega)
  have x1 := ex_ok hp ha (big h.top) (by decide) ⟨0, []⟩
  have x2 := ex_ok hp (n := (b : Int)) (by omega) (big h.bot) (by decide) ⟨0, []⟩
  have w1 := pwx (n := expo p a.natAbs) hp (by omega) ⟨0, []⟩
  have w2 := pwx (n := expo p b) hp (by omega) ⟨0, []⟩
  have d1 := pw_fit (n := expo p a.natAbs) hp (by omega)
  have d2 := pw_fit (n := expo p b) hp (by omega)
  generalize hP : p ^ expo p a.natAbs = P at *
  generalize hQ : p ^ expo p b = Q at *
  have D1 : fDiv (.int a) (.int P) ⟨0, []⟩ = .ok (.int (a / (P : Int))) ⟨0, []⟩ := by
    show (bif divFit (P : Int) then _ else _) = _
    rw [d1]
    rfl
  have D2 : fDiv (.int b) (.int Q) ⟨0, []⟩ = .ok (.int ((b : Int) / (Q : Int))) ⟨0, []⟩ := by
    show (bif divFit (Q : Int) then _ else _) = _
    rw [d2]
    rfl
  have hu : LW.m_unit_in [.int p, v] ⟨0, []⟩ = .ok (.tup [.int (a / (P : Int)), .int ((b : Int) / (Q : Int))]) ⟨0, []⟩ := by
    refine mDef_rt (E := [some (.int p), some v, none, none, none, none]) rfl ?_
    unfold LW.b_unit_in
    refine (mSeq_nx (E1 := [some (.int p), some v, some (.int a), some (.int b), none, none]) (mAsg_ok (mCallO_ok (mCons_ok rfl mNil_ok) (pair_ok h.num _)) rfl)).trans ?_
    refine (mSeq_nx (E1 := [some (.int p), some v, some (.int a), some (.int b), some (.int P), some (.int Q)]) (mPar_ok (mCons_ok (mCallO_ok (mCons_ok rfl (mCons_ok (mCallO_ok (mCons_ok rfl (mCons_ok rfl mNil_ok)) x1) mNil_ok)) w1) (mCons_ok (mCallO_ok (mCons_ok rfl (mCons_ok (mCallO_ok (mCons_ok rfl (mCons_ok rfl mNil_ok)) x2) mNil_ok)) w2) mNil_ok)))).trans ?_
    exact mRet_ok (mTup_ok (mCons_ok (mB_ok rfl rfl D1) (mCons_ok (mB_ok rfl rfl D2) mNil_ok)) (show 2 < 1000000 by decide))
  exact own_flat (as := [.int (p : Int), v]) hf hu rfl S
end P02

set_option Elab.async false
set_option linter.all false
set_option maxRecDepth 100000
set_option maxHeartbeats 2000000
set_option autoImplicit false
set_option pp.maxSteps 900
namespace P02
open PySem PySem.Spec PyProof.Rows L2 FX FX.Ar
local macro_rules | `(tactic| sizeOf_list_dec) => `(tactic| first | exact SetL.zero | (apply SetL.succ; sizeOf_list_dec) | (apply BindL.name; sizeOf_list_dec) | (apply BindL.tup; sizeOf_list_dec) | exact BindLs.nil | (apply BindLs.cons <;> sizeOf_list_dec))
local macro_rules | `(tactic| array_get_dec) => `(tactic| first
  | with_reducible refine wp_mB ?_
  | ((with_reducible apply wp_mV); rfl)
  | with_reducible refine wp_mC ?_
  | with_reducible refine wf_seq ?_
  | with_reducible refine wf_set ?_
  | ((with_reducible apply ex_set); sizeOf_list_dec)
  | ((with_reducible apply ex_bind); sizeOf_list_dec)
  | ((with_reducible apply ex_bindT); sizeOf_list_dec)
  | with_reducible refine kt_nx ?_
  | with_reducible refine wp_mCons ?_
  | with_reducible refine wp_mNil ?_
  | with_reducible refine wp_mCallO ?_
  | with_reducible refine wp_mCall ?_
  | with_reducible refine wp_add ?_
  | with_reducible refine wp_sub ?_
  | with_reducible refine wp_cmp ?_
  | with_reducible refine wp_eqI ?_
  | with_reducible refine wp_neI ?_
  | with_reducible refine ⟨_, rfl, ?_⟩
  | with_reducible refine cnd_t ?_
  | with_reducible refine cnd_f ?_
  | with_reducible refine cnd_not ?_
  | with_reducible refine cnd_nonT ?_
  | with_reducible refine cnd_nonI ?_
  | with_reducible refine cnd_nonU ?_
  | ((with_reducible apply cnd_isBt); rfl)
  | ((with_reducible apply cnd_isBf); rfl)
  | with_reducible refine wp_mTB ?_
  | with_reducible refine wf_if ?_
  | with_reducible refine wf_ret ?_
  | with_reducible refine kt_rt ?_
  | with_reducible refine kf_rt ?_
  | with_reducible refine kf_nx ?_
  | with_reducible refine kl_nx ?_
  | with_reducible refine kl_rt ?_
  | with_reducible refine wf_drop ?_
  | with_reducible refine wf_skip ?_
  | with_reducible refine wf_asg ?_
  | with_reducible refine wp_mTup ?_
  | with_reducible refine wp_mLst ?_
  | ((with_reducible refine ⟨?_, ?_⟩); exact fullLen_of (by simp only [List.length_cons, List.length_nil]; decide))
  | ((with_reducible refine wp_mul ?_ ?_); first | assumption | rfl)
  | ((with_reducible refine wp_div ?_ ?_); first | assumption | rfl)
  | ((with_reducible refine wp_divS ?_ ?_ ?_); first | assumption | omega; first | assumption | omega)
  | ((with_reducible refine wp_mod ?_ ?_); first | assumption | omega)
  | with_reducible refine wp_neg ?_
  | with_reducible refine wp_notV ?_
  | with_reducible refine wp_mU ?_
  | ((with_reducible refine wp_pow ?_ ?_); first | assumption | rfl)
  | (with_reducible refine wf_par ?_)
  | (with_reducible refine wf_par3 ?_)
  | ((with_reducible apply ex_par); sizeOf_list_dec; sizeOf_list_dec)
  | ((with_reducible apply ex_par3); sizeOf_list_dec; sizeOf_list_dec; sizeOf_list_dec)
  | ((with_reducible apply wf_aug); rfl)
  | with_reducible refine wp_addI ?_
  | with_reducible refine wp_mTru ?_
  | with_reducible refine wp_mAndT ?_
  | with_reducible refine wp_mOrT ?_
  | with_reducible refine wp_mNotT ?_
  | with_reducible refine wp_mYes ?_
  | with_reducible refine wp_mAndV ?_
  | with_reducible refine wp_mOrV ?_
  | with_reducible refine wp_mIf ?_
  | with_reducible refine wp_mChain ?_
  | with_reducible refine wp_mInR ?_
  | with_reducible refine wp_inRt ?_
  | with_reducible refine wp_inRf ?_
  | with_reducible refine wp_isN ?_
  | with_reducible refine wp_notN ?_
  | ((with_reducible apply wp_ixT); rfl)
  | ((with_reducible apply wp_ixL); assumption; rfl)
  | with_reducible refine wp_lenT ?_
  | with_reducible refine wp_lenF ?_
  | ((with_reducible apply wp_lenL); assumption)
  | with_reducible refine wp_abs ?_
  | with_reducible refine wp_int ?_
  | with_reducible refine wp_intB ?_
  | with_reducible refine wp_max ?_
  | with_reducible refine wp_min ?_
  | with_reducible refine wp_gcd ?_
  | with_reducible refine wp_tupT ?_
  | ((with_reducible apply wp_tupL); assumption)
  | with_reducible refine wp_listT ?_
  | ((with_reducible apply wp_isI); rfl; rfl)
  | with_reducible refine wp_mMet ?_
  | with_reducible refine wp_mSl ?_
  | with_reducible refine wp_mP ?_
  | with_reducible refine wp_mNoP ?_
  | with_reducible refine wp_slT ?_
  | with_reducible refine wp_revT ?_
  | with_reducible refine wf_for ?_
  | with_reducible refine wp_mWk ?_
  | with_reducible refine wp_seqT ?_
  | with_reducible refine wp_enumT ?_
  | with_reducible refine wp_lc ?_
  | with_reducible refine wf_brk ?_
  | with_reducible refine wf_cont ?_
  | with_reducible refine wf_retN ?_
  | with_reducible refine kl_ct ?_
  | with_reducible refine kl_bk ?_
  | with_reducible refine kt_bk ?_
  | with_reducible refine kt_ct ?_
  | with_reducible refine kt_ex ?_
  | with_reducible refine kl_ex ?_
  | with_reducible refine kf_ex ?_
  | with_reducible refine km_nx ?_
  | with_reducible refine km_rt ?_
  | ((with_reducible refine wp_mulI ?_ ?_); first | assumption | rfl)
  | with_reducible refine wp_dnew ?_)
theorem rangeI_get : ∀ {n i : Nat} {lo : Int} {x : IV}, (rangeI lo n)[i]? = some x → i < n ∧ x = .int (lo + i)
  | 0, i, lo, x, h => by cases h
  | n + 1, 0, lo, x, h => ⟨by omega, by have e : IV.int lo = x := Option.some.inj h
                                        rw [← e]; congr 1; omega⟩
  | n + 1, i + 1, lo, x, h => by
    obtain ⟨h1, h2⟩ := rangeI_get (n := n) (i := i) (lo := lo + 1) h
    exact ⟨by omega, by rw [h2]; congr 1; omega⟩
theorem take_succ_get {α : Type} {l : List α} {i : Nat} {d : α} (h : l[i]? = some d) : l.take (i + 1) = l.take i ++ [d] := by
  rw [List.take_add_one, h]; rfl
/-- x is near to a root of the unit u0 / u1 -/
def Nr (M n : Nat) (u0 : Int) (u1 x : Nat) : Prop := (M : Int) ∣ (x : Int) ^ n * u1 - u0
instance (M n : Nat) (u0 : Int) (u1 x : Nat) : Decidable (Nr M n u0 u1 x) := inferInstanceAs (Decidable (_ ∣ _))
def np (M n : Nat) (u0 : Int) (u1 : Nat) : Bool := (List.range M).any fun x => decide (Nr M n u0 u1 x)
theorem np_iff {M n : Nat} {u0 : Int} {u1 : Nat} : np M n u0 u1 = true ↔ ∃ x, x < M ∧ Nr M n u0 u1 x := by
  unfold np
  rw [List.any_eq_true]
  constructor
  · rintro ⟨x, h1, h2⟩
    exact ⟨x, List.mem_range.mp h1, of_decide_eq_true h2⟩
  · rintro ⟨x, h1, h2⟩
    exact ⟨x, List.mem_range.mpr h1, decide_eq_true h2⟩
theorem nr_key {M r u1 : Nat} {u0 y : Int} (hr : r < M) (hd : (M : Int) ∣ (r : Int) * u1 - u0) (hc : Nat.Coprime M u1) : y % (M : Int) = r ↔ (M : Int) ∣ y * u1 - u0 := by
  have e : y * u1 - u0 = (u1 : Int) * (y - r) + ((r : Int) * u1 - u0) := by
    rw [Int.mul_sub, Int.mul_comm y, Int.mul_comm (r : Int)]; omega
  have hr2 : (r : Int) % (M : Int) = r := Int.emod_eq_of_lt (by omega) (by omega)
  constructor
  · intro h
    have h1 : (M : Int) ∣ y - r := Int.dvd_of_emod_eq_zero (by rw [← Int.emod_emod_of_dvd y (Int.dvd_refl (M : Int)), ← hr2] at h; exact Int.emod_eq_emod_iff_emod_sub_eq_zero.mp (by rw [Int.emod_emod] at h; exact h))
    rw [e]
    exact Int.dvd_add (Int.dvd_mul_of_dvd_right h1) hd
  · intro h
    rw [e] at h
    have h1 : (M : Int) ∣ (u1 : Int) * (y - r) := (Int.dvd_add_left hd).mp h
    have h2 := icop h1 (by rw [Int.natAbs_natCast]; exact hc)
    have h3 := Int.emod_eq_emod_iff_emod_sub_eq_zero.mpr (Int.emod_eq_zero_of_dvd h2)
    rw [h3, hr2]
theorem filt_succ (f : Nat → Bool) (i : Nat) : (List.range (i + 1)).filter f = (List.range i).filter f ++ (if f i then [i] else []) := by
  rw [List.range_succ, List.filter_append]
  congr 1
  cases h : f i <;> simp [h]
theorem lnear {p n l : Nat} {u0 : Int} {u1 : Nat} (hp : Pr p) (hM : p ^ l ≤ 400) (hl : l ≤ 66) (hn : n ≤ 12) (h1 : u1 < 2 ^ 1000) (S : Sto) :
    own LW.m__law_is_near_power [.int p, .tup [.int u0, .int u1], .int n, .int l] S = .ok (.bl (np (p ^ l) n u0 u1)) S := by
  refine own_eq rfl rfl ?_ S
  refine wp_def [some (.int p), some (.tup [.int u0, .int u1]), some (.int n), some (.int l), none, none] rfl ?_
  unfold LW.b__law_is_near_power
  repeat array_get_dec
  refine wp_eq (lpwx hp (by omega) _) ?_
  have hM0 : 0 < p ^ l := Nat.pow_pos (by have := hp.two; omega)
  generalize p ^ l = M at *
  repeat array_get_dec
  refine wp_range1 (in62_of (by omega) (by omega)) ?_
  rw [Int.toNat_natCast]
  refine wp_lcGo (fun i acc S => acc = (((List.range i).filter fun x => decide (Nr M n u0 u1 x)).map fun x : Nat => (x : Int)).map IV.int ∧ S = ⟨0, []⟩) ?_ ⟨rfl, rfl⟩ ?_ ?_
  · rw [len_rangeI]; omega
  · rintro i x acc S hx ⟨rfl, rfl⟩
    obtain ⟨hi, rfl⟩ := rangeI_get hx
    rw [Int.zero_add]
    have hM0' : 0 < (M : Int) := by omega
    have hx9 : ((i : Int)).natAbs < 2 ^ 9 := by omega
    have hm : mulFit ((i : Int) ^ n) (u1 : Int) = true := mulFit_of (up_lt (ipow_lt hx9 n) (show 9 * n + 1 ≤ 1000 by omega)) (by rw [Int.natAbs_natCast]; exact h1) (by decide)
    unfold LcStep
    repeat array_get_dec
    refine wp_eq (lpowI hx9 (by decide) hn _) ?_
    repeat array_get_dec
    refine cnd_dec (fun z => ?_) fun z => ?_
    · repeat array_get_dec
      refine ⟨?_, rfl⟩
      have hz : Nr M n u0 u1 i := Int.dvd_of_emod_eq_zero z
      rw [filt_succ, if_pos (decide_eq_true hz), List.map_append, List.map_append]
      rfl
    · refine ⟨?_, rfl⟩
      have hz : ¬ Nr M n u0 u1 i := fun w => z (Int.emod_eq_zero_of_dvd w)
      rw [filt_succ, if_neg (by simpa using hz), List.append_nil, List.append_nil]
  · rintro acc S ⟨rfl, rfl⟩
    rw [len_rangeI]
    have hlen : ((((List.range M).filter fun x => decide (Nr M n u0 u1 x)).map fun x : Nat => (x : Int))).length ≤ 400 := by
      rw [List.length_map]
      exact Nat.le_trans (List.length_filter_le _ _) (by rw [List.length_range]; exact hM)
    have hb : (!decide ((((List.range M).filter fun x => decide (Nr M n u0 u1 x)).map fun x : Nat => (x : Int)) = [])) = np M n u0 u1 := by
      unfold np
      generalize List.range M = L
      induction L with
      | nil => rfl
      | cons a L ih =>
        rw [List.filter_cons, List.any_cons]
        by_cases h : Nr M n u0 u1 a
        · rw [decide_eq_true h]; rfl
        · rw [decide_eq_false h]
          simpa using ih
    rw [← hb]
    generalize (((List.range M).filter fun x => decide (Nr M n u0 u1 x)).map fun x : Nat => (x : Int)) = L at *
    repeat array_get_dec
    refine wp_neG (eqIV_lst _ _ _ L [] ((Keep.new _ _) _ _ (get_new _ _)) (get_new _ _) (by omega) (by decide)) ?_
    rfl
/-- units below k + 1 -/
def cand (p k : Nat) : List Nat := ((List.range k).filter fun j => decide ((j + 1) % p ≠ 0)).map (· + 1)
theorem mem_cand {p k x : Nat} : x ∈ cand p k ↔ 0 < x ∧ x ≤ k ∧ x % p ≠ 0 := by
  unfold cand
  rw [List.mem_map]
  constructor
  · rintro ⟨j, h, rfl⟩
    rw [List.mem_filter, List.mem_range] at h
    have := of_decide_eq_true h.2
    exact ⟨by omega, by omega, this⟩
  · rintro ⟨h1, h2, h3⟩
    refine ⟨x - 1, List.mem_filter.mpr ⟨List.mem_range.mpr (by omega), ?_⟩, by omega⟩
    rw [show x - 1 + 1 = x by omega]
    exact decide_eq_true h3
theorem cand_len (p k : Nat) : (cand p k).length ≤ k := by
  unfold cand
  rw [List.length_map]
  exact Nat.le_trans (List.length_filter_le _ _) (by rw [List.length_range]; exact Nat.le_refl _)
theorem rest_root_ok {p n l : Nat} {u0 : Int} {u1 : Nat} (hp : Pr p) (hM : p ^ l ≤ 400) (hl : l ≤ 66) (hl0 : 0 < l) (hn : n ≤ 12) (hn0 : 0 < n) (h0 : ¬ (p : Int) ∣ u0) (h1 : u1 % p ≠ 0) (hA : u0.natAbs < 2 ^ 1000) :
    (np (p ^ l) n u0 u1 = false ∧ ∀ S, own LW.m_rest_root [.int p, .tup [.int u0, .int u1], .int n, .int l] S = .ok .non S) ∨
    (np (p ^ l) n u0 u1 = true ∧ ∃ x : Nat, 0 < x ∧ x < p ^ l ∧ x % p ≠ 0 ∧ Nr (p ^ l) n u0 u1 x ∧ ∀ S, own LW.m_rest_root [.int p, .tup [.int u0, .int u1], .int n, .int l] S = .ok (.int x) S) := by
  have h2 := hp.two
  have main : wp (LW.m_rest_root [.int p, .tup [.int u0, .int u1], .int n, .int l] ⟨0, []⟩) (fun v _ => (np (p ^ l) n u0 u1 = false ∧ v = .non) ∨ (∃ x : Nat, v = .int x ∧ 0 < x ∧ x < p ^ l ∧ x % p ≠ 0 ∧ Nr (p ^ l) n u0 u1 x)) NoX := by
    refine wp_def [some (.int p), some (.tup [.int u0, .int u1]), some (.int n), some (.int l), none, none, none, none] rfl ?_
    unfold LW.b_rest_root
    repeat array_get_dec
    refine wp_eq (pwx hp (by omega) _) ?_
    obtain ⟨r, er, hr, hd⟩ := rest_ok (level := l) (.inl rfl : Num (.tup [.int u0, .int u1]) u0 u1) h2.1 h2.2 hl (cop hp h1 l) hA ⟨0, []⟩
    have hc : Nat.Coprime (p ^ l) u1 := Nat.Coprime.pow_left l (cop1 hp h1)
    have hpM : p ∣ p ^ l := by
      cases l with
      | zero => omega
      | succ l => rw [Nat.pow_succ]; exact Nat.dvd_mul_left _ _
    have hM0 : 0 < p ^ l := Nat.pow_pos (by omega)
    have hM0' : 0 < ((p ^ l : Nat) : Int) := by omega
    have hp0 : 0 < (p : Int) := by omega
    generalize p ^ l = M at *
    repeat array_get_dec
    refine wp_eq (own_flat rfl er rfl _) ?_
    repeat array_get_dec
    refine wp_range2 (in62_of (by omega) (by omega)) (in62_of (by omega) (by omega)) ?_
    have hk : ((M : Int) - 1).toNat = M - 1 := by omega
    rw [hk]
    refine wp_lcGo (fun i acc S => acc = (cand p i).map (fun x : Nat => IV.int x) ∧ S = ⟨0, []⟩) ?_ ⟨rfl, rfl⟩ ?_ ?_
    · rw [len_rangeI]; omega
    · rintro i x acc S hx ⟨rfl, rfl⟩
      obtain ⟨hi, rfl⟩ := rangeI_get hx
      have e1 : (1 : Int) + (i : Int) = ((i + 1 : Nat) : Int) := by omega
      rw [e1]
      unfold LcStep
      repeat array_get_dec
      have e2 : (((i + 1 : Nat) : Int) % (p : Int) = 0) ↔ (i + 1) % p = 0 := by rw [← Int.natCast_emod]; omega
      refine cnd_dec (fun z => ?_) fun z => ?_
      · refine ⟨?_, rfl⟩
        unfold cand
        rw [filt_succ, if_neg (by simpa using e2.mp z), List.append_nil, List.append_nil]
      · repeat array_get_dec
        refine ⟨?_, rfl⟩
        unfold cand
        rw [filt_succ, if_pos (by simpa using fun w => z (e2.mpr w)), List.map_append, List.map_append]
        rfl
    rintro acc S ⟨rfl, rfl⟩
    rw [len_rangeI]
    repeat array_get_dec
    refine wp_mNx ?_
    repeat array_get_dec
    refine .inr ⟨_, _, rfl, get_new _ _, ?_⟩
    refine wp_nxCell (xs := (cand p (M - 1)).map (fun x : Nat => IV.int x)) (fun i S' => S' = (⟨0, []⟩ : Sto).new (.lst ((cand p (M - 1)).map fun x : Nat => IV.int x)) ∧ ∀ x ∈ (cand p (M - 1)).take i, ¬ Nr M n u0 u1 x) ?_ ⟨rfl, fun x hx => by cases hx⟩ (fun i S' h => by rw [h.1]; exact get_new _ _) ?_ ?_
    · rw [List.length_map]
      have := cand_len p (M - 1)
      omega
    · rintro i x S' hx ⟨rfl, hno⟩
      rw [List.getElem?_map] at hx
      obtain ⟨y, hy, rfl⟩ := Option.map_eq_some_iff.mp hx
      obtain ⟨c1, c2, c3⟩ := mem_cand.mp (List.mem_of_getElem? hy)
      have hx9 : ((y : Int)).natAbs < 2 ^ 9 := by omega
      unfold NxStep
      repeat array_get_dec
      refine wp_eq (ipowI hx9 (by decide) hn _) ?_
      repeat array_get_dec
      refine cnd_dec (fun z => ?_) fun z => ?_
      · repeat array_get_dec
        exact .inr ⟨y, rfl, c1, by omega, c3, (nr_key hr hd hc).mp z⟩
      · refine ⟨rfl, fun w hw => ?_⟩
        rw [take_succ_get hy] at hw
        rcases List.mem_append.mp hw with hw | hw
        · exact hno w hw
        · rw [List.mem_singleton] at hw
          subst hw
          exact fun q => z ((nr_key hr hd hc).mpr q)
    · rintro S' ⟨rfl, hno⟩
      rw [List.length_map, List.take_length] at hno
      refine .inl ⟨?_, rfl⟩
      cases hb : np M n u0 u1 with
      | false => rfl
      | true =>
        exfalso
        obtain ⟨x, hx, hN⟩ := np_iff.mp hb
        by_cases hxp : x % p = 0
        · have h3 : (p : Int) ∣ (x : Int) ^ n * u1 - u0 := Int.dvd_trans (Int.natCast_dvd_natCast.mpr hpM) hN
          have h4 : (p : Int) ∣ (x : Int) ^ n * u1 := by
            refine Int.dvd_mul_of_dvd_left ?_
            have h5 : (p : Int) ∣ (x : Int) := Int.natCast_dvd_natCast.mpr (Nat.dvd_of_mod_eq_zero hxp)
            cases n with
            | zero => omega
            | succ n => rw [Int.pow_succ]; exact Int.dvd_mul_of_dvd_right h5
          exact h0 ((Int.dvd_iff_dvd_of_dvd_sub h3).mp h4)
        · have hx0 : 0 < x := by
            rcases Nat.eq_zero_or_pos x with z | z
            · rw [z, Nat.zero_mod] at hxp; exact absurd rfl hxp
            · exact z
          exact hno x (mem_cand.mpr ⟨hx0, by omega, hxp⟩) hN
  obtain ⟨v, S', e, h⟩ := wp_ex main
  rcases h with ⟨hb, rfl⟩ | ⟨x, rfl, x1, x2, x3, x4⟩
  · exact .inl ⟨hb, fun S => own_flat rfl e rfl S⟩
  · exact .inr ⟨np_iff.mpr ⟨x, x2, x4⟩, x, x1, x2, x3, x4, fun S => own_flat rfl e rfl S⟩
end P02

set_option Elab.async false
set_option linter.all false
set_option maxRecDepth 100000
set_option maxHeartbeats 2000000
set_option autoImplicit false
set_option pp.maxSteps 900
namespace P02
open PySem PySem.Spec PyProof.Rows L2 FX FX.Ar
local macro_rules | `(tactic| sizeOf_list_dec) => `(tactic| first | exact SetL.zero | (apply SetL.succ; sizeOf_list_dec) | (apply BindL.name; sizeOf_list_dec) | (apply BindL.tup; sizeOf_list_dec) | exact BindLs.nil | (apply BindLs.cons <;> sizeOf_list_dec))
local macro_rules | `(tactic| array_get_dec) => `(tactic| first
  | with_reducible refine wp_mB ?_
  | ((with_reducible apply wp_mV); rfl)
  | with_reducible refine wp_mC ?_
  | with_reducible refine wf_seq ?_
  | with_reducible refine wf_set ?_
  | ((with_reducible apply ex_set); sizeOf_list_dec)
  | ((with_reducible apply ex_bind); sizeOf_list_dec)
  | ((with_reducible apply ex_bindT); sizeOf_list_dec)
  | with_reducible refine kt_nx ?_
  | with_reducible refine wp_mCons ?_
  | with_reducible refine wp_mNil ?_
  | with_reducible refine wp_mCallO ?_
  | with_reducible refine wp_mCall ?_
  | with_reducible refine wp_add ?_
  | with_reducible refine wp_sub ?_
  | with_reducible refine wp_cmp ?_
  | with_reducible refine wp_eqI ?_
  | with_reducible refine wp_neI ?_
  | with_reducible refine ⟨_, rfl, ?_⟩
  | with_reducible refine cnd_t ?_
  | with_reducible refine cnd_f ?_
  | with_reducible refine cnd_not ?_
  | with_reducible refine cnd_nonT ?_
  | with_reducible refine cnd_nonI ?_
  | with_reducible refine cnd_nonU ?_
  | ((with_reducible apply cnd_isBt); rfl)
  | ((with_reducible apply cnd_isBf); rfl)
  | with_reducible refine wp_mTB ?_
  | with_reducible refine wf_if ?_
  | with_reducible refine wf_ret ?_
  | with_reducible refine kt_rt ?_
  | with_reducible refine kf_rt ?_
  | with_reducible refine kf_nx ?_
  | with_reducible refine kl_nx ?_
  | with_reducible refine kl_rt ?_
  | with_reducible refine wf_drop ?_
  | with_reducible refine wf_skip ?_
  | with_reducible refine wf_asg ?_
  | with_reducible refine wp_mTup ?_
  | with_reducible refine wp_mLst ?_
  | ((with_reducible refine ⟨?_, ?_⟩); exact fullLen_of (by simp only [List.length_cons, List.length_nil]; decide))
  | ((with_reducible refine wp_mul ?_ ?_); first | assumption | rfl)
  | ((with_reducible refine wp_div ?_ ?_); first | assumption | rfl)
  | ((with_reducible refine wp_divS ?_ ?_ ?_); first | assumption | omega; first | assumption | omega)
  | ((with_reducible refine wp_mod ?_ ?_); first | assumption | omega)
  | with_reducible refine wp_neg ?_
  | with_reducible refine wp_notV ?_
  | with_reducible refine wp_mU ?_
  | ((with_reducible refine wp_pow ?_ ?_); first | assumption | rfl)
  | (with_reducible refine wf_par ?_)
  | (with_reducible refine wf_par3 ?_)
  | ((with_reducible apply ex_par); sizeOf_list_dec; sizeOf_list_dec)
  | ((with_reducible apply ex_par3); sizeOf_list_dec; sizeOf_list_dec; sizeOf_list_dec)
  | ((with_reducible apply wf_aug); rfl)
  | with_reducible refine wp_addI ?_
  | with_reducible refine wp_mTru ?_
  | with_reducible refine wp_mAndT ?_
  | with_reducible refine wp_mOrT ?_
  | with_reducible refine wp_mNotT ?_
  | with_reducible refine wp_mYes ?_
  | with_reducible refine wp_mAndV ?_
  | with_reducible refine wp_mOrV ?_
  | with_reducible refine wp_mIf ?_
  | with_reducible refine wp_mChain ?_
  | with_reducible refine wp_mInR ?_
  | with_reducible refine wp_inRt ?_
  | with_reducible refine wp_inRf ?_
  | with_reducible refine wp_isN ?_
  | with_reducible refine wp_notN ?_
  | ((with_reducible apply wp_ixT); rfl)
  | ((with_reducible apply wp_ixL); assumption; rfl)
  | with_reducible refine wp_lenT ?_
  | with_reducible refine wp_lenF ?_
  | ((with_reducible apply wp_lenL); assumption)
  | with_reducible refine wp_abs ?_
  | with_reducible refine wp_int ?_
  | with_reducible refine wp_intB ?_
  | with_reducible refine wp_max ?_
  | with_reducible refine wp_min ?_
  | with_reducible refine wp_gcd ?_
  | with_reducible refine wp_tupT ?_
  | ((with_reducible apply wp_tupL); assumption)
  | with_reducible refine wp_listT ?_
  | ((with_reducible apply wp_isI); rfl; rfl)
  | with_reducible refine wp_mMet ?_
  | with_reducible refine wp_mSl ?_
  | with_reducible refine wp_mP ?_
  | with_reducible refine wp_mNoP ?_
  | with_reducible refine wp_slT ?_
  | with_reducible refine wp_revT ?_
  | with_reducible refine wf_for ?_
  | with_reducible refine wp_mWk ?_
  | with_reducible refine wp_seqT ?_
  | with_reducible refine wp_enumT ?_
  | with_reducible refine wp_lc ?_
  | with_reducible refine wf_brk ?_
  | with_reducible refine wf_cont ?_
  | with_reducible refine wf_retN ?_
  | with_reducible refine kl_ct ?_
  | with_reducible refine kl_bk ?_
  | with_reducible refine kt_bk ?_
  | with_reducible refine kt_ct ?_
  | with_reducible refine kt_ex ?_
  | with_reducible refine kl_ex ?_
  | with_reducible refine kf_ex ?_
  | with_reducible refine km_nx ?_
  | with_reducible refine km_rt ?_
  | ((with_reducible refine wp_mulI ?_ ?_); first | assumption | rfl)
  | with_reducible refine wp_dnew ?_)
/-- what is asked: a prime, an exponent, a number other than 0 -/
structure Cx (p n : Nat) (v : IV) (a : Int) (b : Nat) : Prop where
  hp : Pr p
  n0 : 0 < n
  n12 : n ≤ 12
  num : NumOk v a b
  a0 : a ≠ 0
def lev (p n : Nat) : Nat := 2 * EE p (n : Int) + 1
theorem lev_all : ∀ p ∈ [2, 3, 5, 7], ∀ n < 13, 0 < n → expo p n ≤ 3 ∧ p ^ (2 * expo p n + 1) ≤ 400 := by decide +kernel
theorem lev_le {p n : Nat} (hp : Pr p) (h0 : 0 < n) (h : n ≤ 12) : lev p n ≤ 7 ∧ p ^ lev p n ≤ 400 := by
  have hm : p ∈ [2, 3, 5, 7] := by rcases hp with rfl | rfl | rfl | rfl <;> decide
  obtain ⟨h1, h2⟩ := lev_all p hm n (by omega) h0
  unfold lev EE
  rw [Int.natAbs_natCast]
  exact ⟨by omega, h2⟩
theorem plev_ok {p n : Nat} (hp : Pr p) (h0 : 0 < n) (h : n ≤ 12) (S : Sto) : own LW.m_power_level [.int p, .int n] S = .ok (.int (lev p n : Nat)) S := by
  have hl := (lev_le hp h0 h).1
  have ex := ex_ok hp (n := (n : Int)) (by omega) (M := 10) (by omega) (by decide) ⟨0, []⟩
  refine own_eq rfl rfl ?_ S
  refine wp_def [some (.int p), some (.int n)] rfl ?_
  unfold LW.b_power_level
  repeat array_get_dec
  refine wp_eq ex ?_
  unfold lev EE at *
  have hm : mulFit 2 ((expo p (n : Int).natAbs : Nat) : Int) = true := mulFit_of (a := 10) (b := 10) (by decide) (by omega) (by decide)
  repeat array_get_dec
  rfl
section
variable {p n : Nat} {v : IV} {a : Int} {b : Nat}
def ub (p b : Nat) : Nat := (UU p (b : Int)).toNat
theorem b_spec (hp : Pr p) (hb : 0 < b) : b = p ^ EE p (b : Int) * ub p b ∧ ub p b % p ≠ 0 ∧ UU p (b : Int) = (ub p b : Nat) := by
  obtain ⟨h1, h2⟩ := EU_spec (q := p) (n := (b : Int)) hp.two.1 (by omega)
  have h3 : 0 < p ^ EE p (b : Int) := Nat.pow_pos (by have := hp.two; omega)
  have h4 : 0 ≤ UU p (b : Int) := Int.ediv_nonneg (by omega) (by omega)
  unfold ub
  generalize UU p (b : Int) = u at *
  obtain ⟨u, rfl⟩ := Int.eq_ofNat_of_zero_le h4
  rw [Int.toNat_natCast]
  refine ⟨?_, fun h => h2 (Int.natCast_dvd_natCast.mpr (Nat.dvd_of_mod_eq_zero h)), rfl⟩
  rw [← Int.natCast_mul] at h1
  exact Int.ofNat_inj.mp h1
theorem Cx.ea (c : Cx p n v a b) : EE p a ≤ 200 := expo_le' (Nat.lt_trans c.num.top (by decide)) (by have := c.a0; omega)
theorem Cx.eb (c : Cx p n v a b) : EE p (b : Int) ≤ 200 := expo_le' (by rw [Int.natAbs_natCast]; exact Nat.lt_trans c.num.bot (by decide)) (by have := c.num.pos; omega)
theorem Cx.unit (c : Cx p n v a b) (S : Sto) : own LW.m_unit_in [.int p, v] S = .ok (.tup [.int (UU p a), .int (ub p b : Nat)]) S := by
  rw [← (b_spec c.hp c.num.pos).2.2]
  exact unit_ok c.hp c.num c.a0 S
theorem Cx.value (c : Cx p n v a b) (S : Sto) : own LW.m_value_in [.int p, v] S = .ok (.int ((EE p a : Int) - (EE p (b : Int) : Int))) S :=
  own_flat (by show (true && (flatR v && true)) = true; rw [c.num.num.flat]; rfl) (value_ok c.num.num c.hp c.a0 (by have := c.num.pos; omega) (big c.num.top) (big c.num.bot) ⟨0, []⟩) rfl S
theorem Cx.u0 (c : Cx p n v a b) : ¬ (p : Int) ∣ UU p a := (EU_spec c.hp.two.1 c.a0).2
theorem Cx.u1 (c : Cx p n v a b) : ub p b % p ≠ 0 := (b_spec c.hp c.num.pos).2.1
theorem Cx.uA (c : Cx p n v a b) : (UU p a).natAbs < 2 ^ 1000 := by
  have h := (EU_spec (q := p) c.hp.two.1 c.a0).1
  have h1 : (UU p a).natAbs ∣ a.natAbs := by
    rw [Int.natAbs_dvd_natAbs]
    exact ⟨_, by rw [Int.mul_comm]; exact h⟩
  have h2 := Nat.le_of_dvd (by have := c.a0; omega) h1
  exact Nat.lt_of_le_of_lt h2 (big c.num.top)
theorem Cx.uB (c : Cx p n v a b) : ub p b < 2 ^ 1000 := by
  have h := (b_spec c.hp c.num.pos).1
  have h1 : ub p b ∣ b := ⟨_, by rw [Nat.mul_comm]; exact h⟩
  exact Nat.lt_of_le_of_lt (Nat.le_of_dvd c.num.pos h1) (big c.num.bot)
theorem Cx.ucop (c : Cx p n v a b) : Nat.gcd (UU p a).natAbs (ub p b) = 1 := by
  have h1 : (UU p a).natAbs ∣ a.natAbs := by
    rw [Int.natAbs_dvd_natAbs]
    exact ⟨_, by rw [Int.mul_comm]; exact (EU_spec (q := p) c.hp.two.1 c.a0).1⟩
  have h2 : ub p b ∣ b := ⟨_, by rw [Nat.mul_comm]; exact (b_spec c.hp c.num.pos).1⟩
  exact Nat.Coprime.coprime_dvd_left h1 (Nat.Coprime.coprime_dvd_right h2 c.num.low)
theorem Cx.ub0 (c : Cx p n v a b) : 0 < ub p b := by
  have := c.u1
  rcases Nat.eq_zero_or_pos (ub p b) with h | h
  · rw [h, Nat.zero_mod] at this; exact absurd rfl this
  · exact h
theorem split_ok (c : Cx p n v a b) (S : Sto) : own LW.m__law_split [.int p, .tup [.int a, .int b]] S = .ok (.tup [.int ((EE p a : Int) - (EE p (b : Int) : Int)), .tup [.int (UU p a), .int (ub p b : Nat)]]) S := by
  have x1 := fun S => lex_ok c.hp c.a0 (big c.num.top) (by decide) S
  have x2 := fun S => lex_ok c.hp (n := (b : Int)) (by have := c.num.pos; omega) (M := 1000) (by rw [Int.natAbs_natCast]; exact big c.num.bot) (by decide) S
  have y1 := fun S => lpwx (p := p) (n := EE p a) c.hp (by have := c.ea; omega) S
  have y2 := fun S => lpwx (p := p) (n := EE p (b : Int)) c.hp (by have := c.eb; omega) S
  have d1 := pw_fit (p := p) (n := EE p a) c.hp (by have := c.ea; omega)
  have d2 := pw_fit (p := p) (n := EE p (b : Int)) c.hp (by have := c.eb; omega)
  rw [← (b_spec c.hp c.num.pos).2.2]
  unfold UU
  unfold EE at *
  refine own_eq rfl rfl ?_ S
  refine wp_def [some (.int p), some (.tup [.int a, .int b]), none, none] rfl ?_
  unfold LW.b__law_split
  repeat array_get_dec
  refine wp_eq (x1 _) ?_
  repeat array_get_dec
  refine wp_eq (x2 _) ?_
  repeat array_get_dec
  refine wp_eq (x1 _) ?_
  repeat array_get_dec
  refine wp_eq (y1 _) ?_
  repeat array_get_dec
  refine wp_eq (x2 _) ?_
  repeat array_get_dec
  refine wp_eq (y2 _) ?_
  repeat array_get_dec
  rfl
end
/-! ### roots -/
/-- whether x / y is near enough to a root of a / b -/
def rootB (p n : Nat) (a : Int) (b : Nat) (x : Int) (y : Nat) : Bool :=
  decide (x ^ n * b = (y : Int) ^ n * a) || decide (((EE p (x ^ n * b - (y : Int) ^ n * a) : Nat) : Int) - ((EE p a + n * EE p (y : Int) : Nat) : Int) > 2 * ((EE p (n : Int) : Nat) : Int))
theorem root_true {p n k : Nat} {a x : Int} {b y : Nat} (hp : Pr p) (hk : k = EE p a + n * EE p (y : Int)) (h : ((p ^ (k + lev p n) : Nat) : Int) ∣ x ^ n * b - (y : Int) ^ n * a) : rootB p n a b x y = true := by
  unfold rootB
  by_cases z : x ^ n * b = (y : Int) ^ n * a
  · rw [decide_eq_true z, Bool.true_or]
  · have h1 : k + lev p n ≤ EE p (x ^ n * b - (y : Int) ^ n * a) := (expo_idvd hp.two.1 (by omega)).mpr h
    rw [decide_eq_false z, Bool.false_or, decide_eq_true]
    rw [← hk]
    unfold lev at h1
    omega
end P02

set_option Elab.async false
set_option linter.all false
set_option maxRecDepth 100000
set_option maxHeartbeats 2000000
set_option autoImplicit false
set_option pp.maxSteps 900
namespace P02
open PySem PySem.Spec PyProof.Rows L2 FX FX.Ar
local macro_rules | `(tactic| sizeOf_list_dec) => `(tactic| first | exact SetL.zero | (apply SetL.succ; sizeOf_list_dec) | (apply BindL.name; sizeOf_list_dec) | (apply BindL.tup; sizeOf_list_dec) | exact BindLs.nil | (apply BindLs.cons <;> sizeOf_list_dec))
local macro_rules | `(tactic| array_get_dec) => `(tactic| first
  | with_reducible refine wp_mB ?_
  | ((with_reducible apply wp_mV); rfl)
  | with_reducible refine wp_mC ?_
  | with_reducible refine wf_seq ?_
  | with_reducible refine wf_set ?_
  | ((with_reducible apply ex_set); sizeOf_list_dec)
  | ((with_reducible apply ex_bind); sizeOf_list_dec)
  | ((with_reducible apply ex_bindT); sizeOf_list_dec)
  | with_reducible refine kt_nx ?_
  | with_reducible refine wp_mCons ?_
  | with_reducible refine wp_mNil ?_
  | with_reducible refine wp_mCallO ?_
  | with_reducible refine wp_mCall ?_
  | with_reducible refine wp_add ?_
  | with_reducible refine wp_sub ?_
  | with_reducible refine wp_cmp ?_
  | with_reducible refine wp_eqI ?_
  | with_reducible refine wp_neI ?_
  | with_reducible refine ⟨_, rfl, ?_⟩
  | with_reducible refine cnd_t ?_
  | with_reducible refine cnd_f ?_
  | with_reducible refine cnd_not ?_
  | with_reducible refine cnd_nonT ?_
  | with_reducible refine cnd_nonI ?_
  | with_reducible refine cnd_nonU ?_
  | ((with_reducible apply cnd_isBt); rfl)
  | ((with_reducible apply cnd_isBf); rfl)
  | with_reducible refine wp_mTB ?_
  | with_reducible refine wf_if ?_
  | with_reducible refine wf_ret ?_
  | with_reducible refine kt_rt ?_
  | with_reducible refine kf_rt ?_
  | with_reducible refine kf_nx ?_
  | with_reducible refine kl_nx ?_
  | with_reducible refine kl_rt ?_
  | with_reducible refine wf_drop ?_
  | with_reducible refine wf_skip ?_
  | with_reducible refine wf_asg ?_
  | with_reducible refine wp_mTup ?_
  | with_reducible refine wp_mLst ?_
  | ((with_reducible refine ⟨?_, ?_⟩); exact fullLen_of (by simp only [List.length_cons, List.length_nil]; decide))
  | ((with_reducible refine wp_mul ?_ ?_); first | assumption | rfl)
  | ((with_reducible refine wp_div ?_ ?_); first | assumption | rfl)
  | ((with_reducible refine wp_divS ?_ ?_ ?_); first | assumption | omega; first | assumption | omega)
  | ((with_reducible refine wp_mod ?_ ?_); first | assumption | omega)
  | with_reducible refine wp_neg ?_
  | with_reducible refine wp_notV ?_
  | with_reducible refine wp_mU ?_
  | ((with_reducible refine wp_pow ?_ ?_); first | assumption | rfl)
  | (with_reducible refine wf_par ?_)
  | (with_reducible refine wf_par3 ?_)
  | ((with_reducible apply ex_par); sizeOf_list_dec; sizeOf_list_dec)
  | ((with_reducible apply ex_par3); sizeOf_list_dec; sizeOf_list_dec; sizeOf_list_dec)
  | ((with_reducible apply wf_aug); rfl)
  | with_reducible refine wp_addI ?_
  | with_reducible refine wp_mTru ?_
  | with_reducible refine wp_mAndT ?_
  | with_reducible refine wp_mOrT ?_
  | with_reducible refine wp_mNotT ?_
  | with_reducible refine wp_mYes ?_
  | with_reducible refine wp_mAndV ?_
  | with_reducible refine wp_mOrV ?_
  | with_reducible refine wp_mIf ?_
  | with_reducible refine wp_mChain ?_
  | with_reducible refine wp_mInR ?_
  | with_reducible refine wp_inRt ?_
  | with_reducible refine wp_inRf ?_
  | with_reducible refine wp_isN ?_
  | with_reducible refine wp_notN ?_
  | ((with_reducible apply wp_ixT); rfl)
  | ((with_reducible apply wp_ixL); assumption; rfl)
  | with_reducible refine wp_lenT ?_
  | with_reducible refine wp_lenF ?_
  | ((with_reducible apply wp_lenL); assumption)
  | with_reducible refine wp_abs ?_
  | with_reducible refine wp_int ?_
  | with_reducible refine wp_intB ?_
  | with_reducible refine wp_max ?_
  | with_reducible refine wp_min ?_
  | with_reducible refine wp_gcd ?_
  | with_reducible refine wp_tupT ?_
  | ((with_reducible apply wp_tupL); assumption)
  | with_reducible refine wp_listT ?_
  | ((with_reducible apply wp_isI); rfl; rfl)
  | with_reducible refine wp_mMet ?_
  | with_reducible refine wp_mSl ?_
  | with_reducible refine wp_mP ?_
  | with_reducible refine wp_mNoP ?_
  | with_reducible refine wp_slT ?_
  | with_reducible refine wp_revT ?_
  | with_reducible refine wf_for ?_
  | with_reducible refine wp_mWk ?_
  | with_reducible refine wp_seqT ?_
  | with_reducible refine wp_enumT ?_
  | with_reducible refine wp_lc ?_
  | with_reducible refine wf_brk ?_
  | with_reducible refine wf_cont ?_
  | with_reducible refine wf_retN ?_
  | with_reducible refine kl_ct ?_
  | with_reducible refine kl_bk ?_
  | with_reducible refine kt_bk ?_
  | with_reducible refine kt_ct ?_
  | with_reducible refine kt_ex ?_
  | with_reducible refine kl_ex ?_
  | with_reducible refine kf_ex ?_
  | with_reducible refine km_nx ?_
  | with_reducible refine km_rt ?_
  | ((with_reducible refine wp_mulI ?_ ?_); first | assumption | rfl)
  | with_reducible refine wp_dnew ?_)
section
variable {p n : Nat} {v : IV} {a : Int} {b : Nat}
/-- both judges say c of the value w -/
structure Both (p n : Nat) (v : IV) (a : Int) (b : Nat) (w : IV) (c : Bool) : Prop where
  flat : flatR w = true
  prog : ∀ S, own LW.m_is_power_paper [.int p, v, .int n, w] S = .ok (.bl c) S
  law : ∀ S, own LW.m__law_is_paper [.int p, .tup [.int a, .int b], .int n, w] S = .ok (.bl c) S
theorem Cx.flat (c : Cx p n v a b) : flatR v = true := c.num.num.flat
theorem req_power (c : Cx p n v a b) (S : Sto) : own LW.m_require_power [.int p, v, .int n] S = .ok .non S := by
  have hf : flatRs [.int (p : Int), v, .int (n : Int)] = true := by show (true && (flatR v && true)) = true; rw [c.flat]; rfl
  refine own_eq hf rfl ?_ S
  refine wp_def [some (.int p), some v, some (.int n)] rfl ?_
  unfold LW.b_require_power
  repeat array_get_dec
  refine wp_eq (req_prime c.hp _) ?_
  repeat array_get_dec
  refine wp_eq (req_number c.num _) ?_
  repeat array_get_dec
  refine wp_eq (req_within n 1 12 (by have := c.n0; omega) (by have := c.n12; omega) _) ?_
  repeat array_get_dec
  refine wp_eq (pair_ok c.num.num _) ?_
  repeat array_get_dec
  refine cnd_no c.a0 ?_
  repeat array_get_dec
  rfl
theorem flat4 (c : Cx p n v a b) {w : IV} (h : flatR w = true) : flatRs [.int (p : Int), v, .int (n : Int), w] = true := by
  show (true && (flatR v && (true && (flatR w && true)))) = true
  rw [h, c.flat]; rfl
theorem both_of (c : Cx p n v a b) {w : IV} {r : Bool} (hw : flatR w = true) (h1 : wp (LW.m_is_power_paper_in [.int p, v, .int n, w] ⟨0, []⟩) (fun x _ => x = .bl r) NoX) (h2 : wp (LW.m__law_is_paper [.int p, .tup [.int a, .int b], .int n, w] ⟨0, []⟩) (fun x _ => x = .bl r) NoX) : Both p n v a b w r := by
  refine ⟨hw, fun S => ?_, fun S => own_eq (by show (true && (true && (true && (flatR w && true)))) = true; rw [hw]; rfl) rfl h2 S⟩
  refine own_eq (flat4 c hw) rfl ?_ S
  refine wp_def [some (.int p), some v, some (.int n), some w] rfl ?_
  unfold LW.b_is_power_paper
  repeat array_get_dec
  refine wp_eq (req_power c _) ?_
  repeat array_get_dec
  refine wp_eq (own_eq (flat4 c hw) rfl h1 _) ?_
  repeat array_get_dec
  rfl
def isBl (r : R IV) (c : Bool) : Bool := match r with
  | .ok (.bl d) _ => d == c
  | _ => false
theorem wp_isBl {r : R IV} {c : Bool} (h : isBl r c = true) : wp r (fun w _ => w = .bl c) NoX := by
  cases r with
  | ok v S =>
    cases v <;> first | exact absurd h (by intro z; cases z; done) | skip
    exact wp_ok (by rw [eq_of_beq (show (_ == c) = true from h)])
  | ex e S => cases h
  | no => cases h
def isRt (r : Fl) (c : Bool) : Bool := match r with
  | .rt (.bl d) _ => d == c
  | _ => false
theorem wf_isRt {r : Fl} {c : Bool} (h : isRt r c = true) : wf r (KF.fn (fun w _ => w = .bl c) NoX) := by
  cases r with
  | rt v S =>
    cases v <;> first | exact absurd h (by intro z; cases z; done) | skip
    exact wf_rt (by rw [eq_of_beq (show (_ == c) = true from h)]; exact rfl)
  | _ => cases h
/-- the law's judge of a paper, behind the split -/
def lpr : MS :=
    (mSeq (mIfS (mTB (mB fEq (mB fIx (mV 3) (mC (.int 0))) (mC (.str "value")))) (mRet (mAndV (mB fEq (mCall bLen (mCons (mV 3) mNil)) (mC (.int 1))) (mB fNe (mB fMod (mV 4) (mV 2)) (mC (.int 0))))) mSkip)
    (mSeq (mIfS (mTB (mB fNe (mCall bLen (mCons (mV 3) mNil)) (mC (.int 2)))) (mRet (mC (.bl false))) mSkip)
    (mSeq (mIfS (mTB (mB fEq (mB fIx (mV 3) (mC (.int 0))) (mC (.str "rests")))) (mSeq (mIfS (mOrT (mTru (mCall bIsI (mCons (mB fIx (mV 3) (mC (.int 1))) (mCons (mC (.ty .bool)) mNil)))) (mOrT (mNotT (mTru (mCall bIsI (mCons (mB fIx (mV 3) (mC (.int 1))) (mCons (mC (.ty .int)) mNil))))) (mNotT (mTB (mChain fLe fLe (mC (.int 1)) (mB fIx (mV 3) (mC (.int 1))) (mC (.int 66))))))) (mRet (mC (.bl false))) mSkip)
    (mRet (mU fNotV (mCallO LW.m__law_is_near_power (mCons (mV 0) (mCons (mV 5) (mCons (mV 2) (mCons (mCall bMin (mCons (mB fIx (mV 3) (mC (.int 1))) (mCons (mB fAdd (mB fMul (mC (.int 2)) (mCallO LW.m__law_exponent (mCons (mV 0) (mCons (mV 2) mNil)))) (mC (.int 1))) mNil))) mNil)))))))) mSkip)
    (mRet (mAndV (mB fEq (mB fIx (mV 3) (mC (.int 0))) (mC (.str "root"))) (mCallO LW.m__law_is_root (mCons (mV 0) (mCons (mV 1) (mCons (mV 2) (mCons (mB fIx (mV 3) (mC (.int 1))) mNil))))))))))
theorem lp_cut (c : Cx p n v a b) {s : Str} {r : List IV} {Q : IV → Sto → Prop} (he : ∀ S, eqIV S (.tup (.str s :: r)) (.tup []) = some false)
    (h : wf (lpr [some (.int p), some (.tup [.int a, .int b]), some (.int n), some (.tup (.str s :: r)), some (.int ((EE p a : Int) - (EE p (b : Int) : Int))), some (.tup [.int (UU p a), .int (ub p b : Nat)])] ⟨0, []⟩) (KF.fn Q NoX)) :
    wp (LW.m__law_is_paper [.int p, .tup [.int a, .int b], .int n, .tup (.str s :: r)] ⟨0, []⟩) Q NoX := by
  refine wp_def [some (.int p), some (.tup [.int a, .int b]), some (.int n), some (.tup (.str s :: r)), none, none] rfl ?_
  unfold LW.b__law_is_paper
  repeat array_get_dec
  refine wp_eqG (he _) ?_
  repeat array_get_dec
  refine wp_ixT (atI_nat (i := 0) rfl) ?_
  repeat array_get_dec
  refine wp_eq (split_ok c _) ?_
  refine ex_bind (E1 := [some (.int p), some (.tup [.int a, .int b]), some (.int n), some (.tup (.str s :: r)), some (.int ((EE p a : Int) - (EE p (b : Int) : Int))), some (.tup [.int (UU p a), .int (ub p b : Nat)])]) (by sizeOf_list_dec) ?_
  exact h
end
end P02

set_option Elab.async false
set_option linter.all false
set_option maxRecDepth 100000
set_option maxHeartbeats 2000000
set_option autoImplicit false
set_option pp.maxSteps 900
namespace P02
open PySem PySem.Spec PyProof.Rows L2 FX FX.Ar
local macro_rules | `(tactic| sizeOf_list_dec) => `(tactic| first | exact SetL.zero | (apply SetL.succ; sizeOf_list_dec) | (apply BindL.name; sizeOf_list_dec) | (apply BindL.tup; sizeOf_list_dec) | exact BindLs.nil | (apply BindLs.cons <;> sizeOf_list_dec))
local macro_rules | `(tactic| array_get_dec) => `(tactic| first
  | with_reducible refine wp_mB ?_
  | ((with_reducible apply wp_mV); rfl)
  | with_reducible refine wp_mC ?_
  | with_reducible refine wf_seq ?_
  | with_reducible refine wf_set ?_
  | ((with_reducible apply ex_set); sizeOf_list_dec)
  | ((with_reducible apply ex_bind); sizeOf_list_dec)
  | ((with_reducible apply ex_bindT); sizeOf_list_dec)
  | with_reducible refine kt_nx ?_
  | with_reducible refine wp_mCons ?_
  | with_reducible refine wp_mNil ?_
  | with_reducible refine wp_mCallO ?_
  | with_reducible refine wp_mCall ?_
  | with_reducible refine wp_add ?_
  | with_reducible refine wp_sub ?_
  | with_reducible refine wp_cmp ?_
  | with_reducible refine wp_eqI ?_
  | with_reducible refine wp_neI ?_
  | with_reducible refine ⟨_, rfl, ?_⟩
  | with_reducible refine cnd_t ?_
  | with_reducible refine cnd_f ?_
  | with_reducible refine cnd_not ?_
  | with_reducible refine cnd_nonT ?_
  | with_reducible refine cnd_nonI ?_
  | with_reducible refine cnd_nonU ?_
  | ((with_reducible apply cnd_isBt); rfl)
  | ((with_reducible apply cnd_isBf); rfl)
  | with_reducible refine wp_mTB ?_
  | with_reducible refine wf_if ?_
  | with_reducible refine wf_ret ?_
  | with_reducible refine kt_rt ?_
  | with_reducible refine kf_rt ?_
  | with_reducible refine kf_nx ?_
  | with_reducible refine kl_nx ?_
  | with_reducible refine kl_rt ?_
  | with_reducible refine wf_drop ?_
  | with_reducible refine wf_skip ?_
  | with_reducible refine wf_asg ?_
  | with_reducible refine wp_mTup ?_
  | with_reducible refine wp_mLst ?_
  | ((with_reducible refine ⟨?_, ?_⟩); exact fullLen_of (by simp only [List.length_cons, List.length_nil]; decide))
  | ((with_reducible refine wp_mul ?_ ?_); first | assumption | rfl)
  | ((with_reducible refine wp_div ?_ ?_); first | assumption | rfl)
  | ((with_reducible refine wp_divS ?_ ?_ ?_); first | assumption | omega; first | assumption | omega)
  | ((with_reducible refine wp_mod ?_ ?_); first | assumption | omega)
  | with_reducible refine wp_neg ?_
  | with_reducible refine wp_notV ?_
  | with_reducible refine wp_mU ?_
  | ((with_reducible refine wp_pow ?_ ?_); first | assumption | rfl)
  | (with_reducible refine wf_par ?_)
  | (with_reducible refine wf_par3 ?_)
  | ((with_reducible apply ex_par); sizeOf_list_dec; sizeOf_list_dec)
  | ((with_reducible apply ex_par3); sizeOf_list_dec; sizeOf_list_dec; sizeOf_list_dec)
  | ((with_reducible apply wf_aug); rfl)
  | with_reducible refine wp_addI ?_
  | with_reducible refine wp_mTru ?_
  | with_reducible refine wp_mAndT ?_
  | with_reducible refine wp_mOrT ?_
  | with_reducible refine wp_mNotT ?_
  | with_reducible refine wp_mYes ?_
  | with_reducible refine wp_mAndV ?_
  | with_reducible refine wp_mOrV ?_
  | with_reducible refine wp_mIf ?_
  | with_reducible refine wp_mChain ?_
  | with_reducible refine wp_mInR ?_
  | with_reducible refine wp_inRt ?_
  | with_reducible refine wp_inRf ?_
  | with_reducible refine wp_isN ?_
  | with_reducible refine wp_notN ?_
  | ((with_reducible apply wp_ixT); rfl)
  | ((with_reducible apply wp_ixL); assumption; rfl)
  | with_reducible refine wp_lenT ?_
  | with_reducible refine wp_lenF ?_
  | ((with_reducible apply wp_lenL); assumption)
  | with_reducible refine wp_abs ?_
  | with_reducible refine wp_int ?_
  | with_reducible refine wp_intB ?_
  | with_reducible refine wp_max ?_
  | with_reducible refine wp_min ?_
  | with_reducible refine wp_gcd ?_
  | with_reducible refine wp_tupT ?_
  | ((with_reducible apply wp_tupL); assumption)
  | with_reducible refine wp_listT ?_
  | ((with_reducible apply wp_isI); rfl; rfl)
  | with_reducible refine wp_mMet ?_
  | with_reducible refine wp_mSl ?_
  | with_reducible refine wp_mP ?_
  | with_reducible refine wp_mNoP ?_
  | with_reducible refine wp_slT ?_
  | with_reducible refine wp_revT ?_
  | with_reducible refine wf_for ?_
  | with_reducible refine wp_mWk ?_
  | with_reducible refine wp_seqT ?_
  | with_reducible refine wp_enumT ?_
  | with_reducible refine wp_lc ?_
  | with_reducible refine wf_brk ?_
  | with_reducible refine wf_cont ?_
  | with_reducible refine wf_retN ?_
  | with_reducible refine kl_ct ?_
  | with_reducible refine kl_bk ?_
  | with_reducible refine kt_bk ?_
  | with_reducible refine kt_ct ?_
  | with_reducible refine kt_ex ?_
  | with_reducible refine kl_ex ?_
  | with_reducible refine kf_ex ?_
  | with_reducible refine km_nx ?_
  | with_reducible refine km_rt ?_
  | ((with_reducible refine wp_mulI ?_ ?_); first | assumption | rfl)
  | with_reducible refine wp_dnew ?_)
section
variable {p n : Nat} {v : IV} {a : Int} {b : Nat}
theorem vv (S : Sto) : eqIV S (.str "value") (.str "value") = some true := by kernel_rfl
theorem vr (S : Sto) : eqIV S (.str "root") (.str "value") = some false := by kernel_rfl
theorem vs (S : Sto) : eqIV S (.str "rests") (.str "value") = some false := by kernel_rfl
theorem rs (S : Sto) : eqIV S (.str "root") (.str "rests") = some false := by kernel_rfl
theorem ss (S : Sto) : eqIV S (.str "rests") (.str "rests") = some true := by kernel_rfl
theorem sr (S : Sto) : eqIV S (.str "rests") (.str "root") = some false := by kernel_rfl
theorem rr (S : Sto) : eqIV S (.str "root") (.str "root") = some true := by kernel_rfl
theorem by_law (c : Cx p n v a b) {s : Str} {r : List IV} {d : Bool} (hw : flatR (.tup (.str s :: r)) = true) (he : ∀ S, eqIV S (.tup (.str s :: r)) (.tup []) = some false)
    (h1 : ∀ t : IV, (t = .int a ∨ t = .tup [.int a, .int b]) → isBl (LW.m_is_power_paper_in [.int p, t, .int n, .tup (.str s :: r)] ⟨0, []⟩) d = true)
    (h2 : ∀ sh u0 u1 : Int, isRt (lpr [some (.int p), some (.tup [.int a, .int b]), some (.int n), some (.tup (.str s :: r)), some (.int sh), some (.tup [.int u0, .int u1])] ⟨0, []⟩) d = true) : Both p n v a b (.tup (.str s :: r)) d := by
  refine both_of c hw (wp_isBl (h1 _ ?_)) (lp_cut c he (wf_isRt (h2 _ _ _)))
  rcases c.num.num with h | ⟨h, _⟩
  · exact .inr h
  · exact .inl h
theorem by_k (c : Cx p n v a b) {w : IV} {d : Bool} (hw : flatR w = true) (h1 : ∀ t : IV, (t = .int a ∨ t = .tup [.int a, .int b]) → isBl (LW.m_is_power_paper_in [.int p, t, .int n, w] ⟨0, []⟩) d = true)
    (h2 : isBl (LW.m__law_is_paper [.int p, .tup [.int a, .int b], .int n, w] ⟨0, []⟩) d = true) : Both p n v a b w d := by
  refine both_of c hw (wp_isBl (h1 _ ?_)) (wp_isBl h2)
  rcases c.num.num with h | ⟨h, _⟩
  · exact .inr h
  · exact .inl h
theorem k_none (c : Cx p n v a b) : Both p n v a b .non false := by_k c rfl (by rintro t (rfl | rfl) <;> kernel_rfl) (by kernel_rfl)
theorem k_five (c : Cx p n v a b) : Both p n v a b (.int 5) false := by_k c rfl (by rintro t (rfl | rfl) <;> kernel_rfl) (by kernel_rfl)
theorem k_str (c : Cx p n v a b) : Both p n v a b (.str "root") false := by_k c rfl (by rintro t (rfl | rfl) <;> kernel_rfl) (by kernel_rfl)
theorem k_nil (c : Cx p n v a b) : Both p n v a b (.tup []) false := by_k c rfl (by rintro t (rfl | rfl) <;> kernel_rfl) (by kernel_rfl)
theorem k_s0 (c : Cx p n v a b) : Both p n v a b (.tup [.str "rests", .int 0]) false := by_law c rfl (fun S => by kernel_rfl) (by rintro t (rfl | rfl) <;> kernel_rfl) (fun _ _ _ => by kernel_rfl)
theorem k_st (c : Cx p n v a b) : Both p n v a b (.tup [.str "rests", .bl true]) false := by_law c rfl (fun S => by kernel_rfl) (by rintro t (rfl | rfl) <;> kernel_rfl) (fun _ _ _ => by kernel_rfl)
theorem k_s67 (c : Cx p n v a b) : Both p n v a b (.tup [.str "rests", .int 67]) false := by_law c rfl (fun S => by kernel_rfl) (by rintro t (rfl | rfl) <;> kernel_rfl) (fun _ _ _ => by kernel_rfl)
theorem k_r0 (c : Cx p n v a b) : Both p n v a b (.tup [.str "root", .int 0]) false := by_law c rfl (fun S => by kernel_rfl) (by rintro t (rfl | rfl) <;> kernel_rfl) (fun _ _ _ => by kernel_rfl)
theorem k_rn (c : Cx p n v a b) : Both p n v a b (.tup [.str "root", .non]) false := by_law c rfl (fun S => by kernel_rfl) (by rintro t (rfl | rfl) <;> kernel_rfl) (fun _ _ _ => by kernel_rfl)
theorem k_r (c : Cx p n v a b) : Both p n v a b (.tup [.str "root"]) false := by_law c rfl (fun S => by kernel_rfl) (by rintro t (rfl | rfl) <;> kernel_rfl) (fun _ _ _ => by kernel_rfl)
theorem k_v1 (c : Cx p n v a b) : Both p n v a b (.tup [.str "value", .int 1]) false := by_law c rfl (fun S => by kernel_rfl) (by rintro t (rfl | rfl) <;> kernel_rfl) (fun _ _ _ => by kernel_rfl)
theorem k_r24 (c : Cx p n v a b) : Both p n v a b (.tup [.str "root", .tup [.int 2, .int 4]]) false := by_law c rfl (fun S => by kernel_rfl) (by rintro t (rfl | rfl) <;> kernel_rfl) (fun _ _ _ => by kernel_rfl)
theorem k_e3 (c : Cx p n v a b) : Both p n v a b (.tup [.str "rest", .int 3]) false := by_law c rfl (fun S => by kernel_rfl) (by rintro t (rfl | rfl) <;> kernel_rfl) (fun _ _ _ => by kernel_rfl)
/-- whether the exponent divides the value -/
def divB (p n : Nat) (a : Int) (b : Nat) : Bool := decide (((EE p a : Int) - (EE p (b : Int) : Int)) % (n : Int) = 0)
theorem j_value (c : Cx p n v a b) : Both p n v a b (.tup [.str "value"]) (!divB p n a b) := by
  have n0 := c.n0
  refine both_of c rfl ?_ (lp_cut c (fun S => by kernel_rfl) ?_)
  · refine wp_def [some (.int p), some v, some (.int n), some (.tup [.str "value"]), none] rfl ?_
    unfold LW.b_is_power_paper_in
    repeat array_get_dec
    refine wp_eqG (show eqIV _ (.tup [.str "value"]) (.tup []) = some false by kernel_rfl) ?_
    repeat array_get_dec
    refine cnd_yes rfl ?_
    repeat array_get_dec
    refine wp_eqG (show eqIV _ (.tup [.str "value"]) (.tup [.str "value"]) = some true by kernel_rfl) ?_
    repeat array_get_dec
    refine wp_eq (c.value _) ?_
    repeat array_get_dec
    rfl
  · unfold lpr
    repeat array_get_dec
    refine wp_eqG (vv _) ?_
    repeat array_get_dec
    refine cnd_yes rfl ?_
    repeat array_get_dec
    rfl
theorem within_yes {k : Nat} (h1 : 1 ≤ k) (h2 : k ≤ 66) (S : Sto) : own LW.m_is_within [.int k, .int 1, .int 66] S = .ok (.bl true) S :=
  own_flat (f := LW.m_is_within) rfl (within_ok k 1 66 (by omega) (by omega) ⟨0, []⟩) rfl S
theorem j_rests (c : Cx p n v a b) {k : Nat} (h1 : 1 ≤ k) (h2 : k ≤ 66) : Both p n v a b (.tup [.str "rests", .int k]) (!np (p ^ min k (lev p n)) n (UU p a) (ub p b)) := by
  have n0 := c.n0
  obtain ⟨l7, l4⟩ := lev_le c.hp c.n0 c.n12
  have hml : min k (lev p n) ≤ 7 := by omega
  have hm4 : p ^ min k (lev p n) ≤ 400 := Nat.le_trans (Nat.pow_le_pow_right (by have := c.hp.two; omega) (by omega)) l4
  have hl0 : 1 ≤ lev p n := by unfold lev; omega
  have hmin : (if ((lev p n : Nat) : Int) < (k : Int) then ((lev p n : Nat) : Int) else (k : Int)) = ((min k (lev p n) : Nat) : Int) := by split <;> omega
  refine both_of c rfl ?_ (lp_cut c (fun S => by kernel_rfl) ?_)
  · refine wp_def [some (.int p), some v, some (.int n), some (.tup [.str "rests", .int k]), none] rfl ?_
    unfold LW.b_is_power_paper_in
    repeat array_get_dec
    refine wp_eqG (show eqIV _ (.tup [.str "rests", .int k]) (.tup []) = some false by kernel_rfl) ?_
    repeat array_get_dec
    refine cnd_no (show ¬ ((2 : Nat) : Int) = 1 by decide) ?_
    repeat array_get_dec
    refine cnd_yes rfl ?_
    repeat array_get_dec
    refine wp_eqG (sr _) ?_
    repeat array_get_dec
    refine wp_neG (ss _) ?_
    repeat array_get_dec
    refine wp_eq (within_yes h1 h2 _) ?_
    repeat array_get_dec
    refine wp_eq (plev_ok c.hp c.n0 c.n12 _) ?_
    repeat array_get_dec
    rw [hmin]
    refine wp_eq (c.unit _) ?_
    repeat array_get_dec
    rcases rest_root_ok (l := min k (lev p n)) c.hp hm4 (by omega) (by omega) c.n12 c.n0 c.u0 c.u1 c.uA with ⟨e, h⟩ | ⟨e, x, _, _, _, _, h⟩
    · refine wp_eq (h _) ?_
      repeat array_get_dec
      rw [e]; rfl
    · refine wp_eq (h _) ?_
      repeat array_get_dec
      rw [e]; rfl
  · have ex := lex_ok c.hp (n := (n : Int)) (by omega) (M := 10) (by have := c.n12; omega) (by decide)
    have hm : mulFit 2 ((expo p (n : Int).natAbs : Nat) : Int) = true := mulFit_of (a := 10) (b := 10) (by decide) (by unfold lev EE at l7; omega) (by decide)
    unfold lpr
    repeat array_get_dec
    refine wp_eqG (vs _) ?_
    repeat array_get_dec
    refine cnd_yes rfl ?_
    repeat array_get_dec
    refine wp_eqG (ss _) ?_
    repeat array_get_dec
    refine cnd_yes (by omega) ?_
    repeat array_get_dec
    refine cnd_yes (by omega) ?_
    repeat array_get_dec
    refine wp_eq (ex _) ?_
    repeat array_get_dec
    rw [show (2 : Int) * ((expo p (n : Int).natAbs : Nat) : Int) + 1 = ((lev p n : Nat) : Int) by unfold lev EE; omega, hmin]
    refine wp_eq (lnear c.hp hm4 (by omega) c.n12 c.uB _) ?_
    repeat array_get_dec
    rfl
end
end P02

set_option Elab.async false
set_option linter.all false
set_option maxRecDepth 100000
set_option maxHeartbeats 2000000
set_option autoImplicit false
set_option pp.maxSteps 900
namespace P02
open PySem PySem.Spec PyProof.Rows L2 FX FX.Ar
local macro_rules | `(tactic| sizeOf_list_dec) => `(tactic| first | exact SetL.zero | (apply SetL.succ; sizeOf_list_dec) | (apply BindL.name; sizeOf_list_dec) | (apply BindL.tup; sizeOf_list_dec) | exact BindLs.nil | (apply BindLs.cons <;> sizeOf_list_dec))
local macro_rules | `(tactic| array_get_dec) => `(tactic| first
  | with_reducible refine wp_mB ?_
  | ((with_reducible apply wp_mV); rfl)
  | with_reducible refine wp_mC ?_
  | with_reducible refine wf_seq ?_
  | with_reducible refine wf_set ?_
  | ((with_reducible apply ex_set); sizeOf_list_dec)
  | ((with_reducible apply ex_bind); sizeOf_list_dec)
  | ((with_reducible apply ex_bindT); sizeOf_list_dec)
  | with_reducible refine kt_nx ?_
  | with_reducible refine wp_mCons ?_
  | with_reducible refine wp_mNil ?_
  | with_reducible refine wp_mCallO ?_
  | with_reducible refine wp_mCall ?_
  | with_reducible refine wp_add ?_
  | with_reducible refine wp_sub ?_
  | with_reducible refine wp_cmp ?_
  | with_reducible refine wp_eqI ?_
  | with_reducible refine wp_neI ?_
  | with_reducible refine ⟨_, rfl, ?_⟩
  | with_reducible refine cnd_t ?_
  | with_reducible refine cnd_f ?_
  | with_reducible refine cnd_not ?_
  | with_reducible refine cnd_nonT ?_
  | with_reducible refine cnd_nonI ?_
  | with_reducible refine cnd_nonU ?_
  | ((with_reducible apply cnd_isBt); rfl)
  | ((with_reducible apply cnd_isBf); rfl)
  | with_reducible refine wp_mTB ?_
  | with_reducible refine wf_if ?_
  | with_reducible refine wf_ret ?_
  | with_reducible refine kt_rt ?_
  | with_reducible refine kf_rt ?_
  | with_reducible refine kf_nx ?_
  | with_reducible refine kl_nx ?_
  | with_reducible refine kl_rt ?_
  | with_reducible refine wf_drop ?_
  | with_reducible refine wf_skip ?_
  | with_reducible refine wf_asg ?_
  | with_reducible refine wp_mTup ?_
  | with_reducible refine wp_mLst ?_
  | ((with_reducible refine ⟨?_, ?_⟩); exact fullLen_of (by simp only [List.length_cons, List.length_nil]; decide))
  | ((with_reducible refine wp_mul ?_ ?_); first | assumption | rfl)
  | ((with_reducible refine wp_div ?_ ?_); first | assumption | rfl)
  | ((with_reducible refine wp_divS ?_ ?_ ?_); first | assumption | omega; first | assumption | omega)
  | ((with_reducible refine wp_mod ?_ ?_); first | assumption | omega)
  | with_reducible refine wp_neg ?_
  | with_reducible refine wp_notV ?_
  | with_reducible refine wp_mU ?_
  | ((with_reducible refine wp_pow ?_ ?_); first | assumption | rfl)
  | (with_reducible refine wf_par ?_)
  | (with_reducible refine wf_par3 ?_)
  | ((with_reducible apply ex_par); sizeOf_list_dec; sizeOf_list_dec)
  | ((with_reducible apply ex_par3); sizeOf_list_dec; sizeOf_list_dec; sizeOf_list_dec)
  | ((with_reducible apply wf_aug); rfl)
  | with_reducible refine wp_addI ?_
  | with_reducible refine wp_mTru ?_
  | with_reducible refine wp_mAndT ?_
  | with_reducible refine wp_mOrT ?_
  | with_reducible refine wp_mNotT ?_
  | with_reducible refine wp_mYes ?_
  | with_reducible refine wp_mAndV ?_
  | with_reducible refine wp_mOrV ?_
  | with_reducible refine wp_mIf ?_
  | with_reducible refine wp_mChain ?_
  | with_reducible refine wp_mInR ?_
  | with_reducible refine wp_inRt ?_
  | with_reducible refine wp_inRf ?_
  | with_reducible refine wp_isN ?_
  | with_reducible refine wp_notN ?_
  | ((with_reducible apply wp_ixT); rfl)
  | ((with_reducible apply wp_ixL); assumption; rfl)
  | with_reducible refine wp_lenT ?_
  | with_reducible refine wp_lenF ?_
  | ((with_reducible apply wp_lenL); assumption)
  | with_reducible refine wp_abs ?_
  | with_reducible refine wp_int ?_
  | with_reducible refine wp_intB ?_
  | with_reducible refine wp_max ?_
  | with_reducible refine wp_min ?_
  | with_reducible refine wp_gcd ?_
  | with_reducible refine wp_tupT ?_
  | ((with_reducible apply wp_tupL); assumption)
  | with_reducible refine wp_listT ?_
  | ((with_reducible apply wp_isI); rfl; rfl)
  | with_reducible refine wp_mMet ?_
  | with_reducible refine wp_mSl ?_
  | with_reducible refine wp_mP ?_
  | with_reducible refine wp_mNoP ?_
  | with_reducible refine wp_slT ?_
  | with_reducible refine wp_revT ?_
  | with_reducible refine wf_for ?_
  | with_reducible refine wp_mWk ?_
  | with_reducible refine wp_seqT ?_
  | with_reducible refine wp_enumT ?_
  | with_reducible refine wp_lc ?_
  | with_reducible refine wf_brk ?_
  | with_reducible refine wf_cont ?_
  | with_reducible refine wf_retN ?_
  | with_reducible refine kl_ct ?_
  | with_reducible refine kl_bk ?_
  | with_reducible refine kt_bk ?_
  | with_reducible refine kt_ct ?_
  | with_reducible refine kt_ex ?_
  | with_reducible refine kl_ex ?_
  | with_reducible refine kf_ex ?_
  | with_reducible refine km_nx ?_
  | with_reducible refine km_rt ?_
  | ((with_reducible refine wp_mulI ?_ ?_); first | assumption | rfl)
  | with_reducible refine wp_dnew ?_)
section
variable {p n : Nat} {v : IV} {a : Int} {b : Nat}
/-- a told root: w tells x / y in lowest terms, other than 0 -/
structure Rt (w : IV) (x : Int) (y : Nat) : Prop where
  num : Num w x y
  pos : 0 < y
  low : Nat.gcd x.natAbs y = 1
  x0 : x ≠ 0
  bx : x.natAbs < 2 ^ 1000
  by_ : y < 2 ^ 1000
theorem any_ok {w : IV} {x : Int} {y : Nat} (h : Rt w x y) (S : Sto) : own LW.m_is_number_any [w] S = .ok (.bl true) S := by
  have hf : flatRs [w] = true := by show (flatR w && true) = true; rw [h.num.flat]; rfl
  refine own_eq hf rfl ?_ S
  refine wp_def [some w] rfl ?_
  unfold LW.b_is_number_any
  repeat array_get_dec
  rcases h.num with rfl | ⟨rfl, _⟩
  · refine wp_eq (whole_tup [.int x, .int y] rfl _) ?_
    repeat array_get_dec
    obtain ⟨S', e⟩ := ratio_any_ok x y h.pos h.low ⟨0, []⟩
    refine wp_eq (own_flat (f := LW.m_is_ratio_any) rfl e rfl _) ?_
    rfl
  · refine wp_eq (whole_int x _) ?_
    repeat array_get_dec
    rfl
theorem abs_mul_lt {a b : Int} {m n : Nat} (ha : a.natAbs < 2 ^ m) (hb : b.natAbs < 2 ^ n) : (a * b).natAbs < 2 ^ (m + n) := by
  rw [Int.natAbs_mul, Nat.pow_add]
  rcases Nat.eq_zero_or_pos b.natAbs with z | z
  · rw [z, Nat.mul_zero]; exact Nat.mul_pos (Nat.two_pow_pos _) (Nat.two_pow_pos _)
  · exact Nat.lt_of_lt_of_le (Nat.mul_lt_mul_of_pos_right ha z) (Nat.mul_le_mul_left _ (Nat.le_of_lt hb))
theorem abs_sub_lt {a b : Int} {n : Nat} (ha : a.natAbs < 2 ^ n) (hb : b.natAbs < 2 ^ n) : (a - b).natAbs < 2 ^ (n + 1) := by
  rw [Nat.pow_succ]
  omega
theorem due_ok (c : Cx p n v a b) {y : Nat} (hy : 0 < y) : EE p ((y : Int) ^ n * a) = EE p a + n * EE p (y : Int) ∧ (y : Int) ^ n * a ≠ 0 := by
  obtain ⟨h1, h2⟩ := EE_pow c.hp.pr (a := (y : Int)) (by omega) n
  refine ⟨?_, Int.mul_ne_zero h2 c.a0⟩
  rw [(EU_mul c.hp.pr h2 c.a0).1, h1, Nat.add_comm]
/-- sizes of what is made and due -/
structure Sz (n : Nat) (a x : Int) (b y : Nat) : Prop where
  px : (x ^ n).natAbs < 2 ^ 13000
  py : ((y : Int) ^ n).natAbs < 2 ^ 13000
  m1 : mulFit (x ^ n) (b : Int) = true
  m2 : mulFit ((y : Int) ^ n) a = true
  made : (x ^ n * b).natAbs < 2 ^ 14000
  due : ((y : Int) ^ n * a).natAbs < 2 ^ 14000
  less : (x ^ n * b - (y : Int) ^ n * a).natAbs < 2 ^ 14001
theorem sz_ok (c : Cx p n v a b) {w : IV} {x : Int} {y : Nat} (h : Rt w x y) : Sz n a x b y := by
  have n12 := c.n12
  have hn : 1000 * n + 1 ≤ 13000 := by omega
  have hy : ((y : Int)).natAbs < 2 ^ 1000 := by rw [Int.natAbs_natCast]; exact h.by_
  have hb : ((b : Int)).natAbs < 2 ^ 1000 := by rw [Int.natAbs_natCast]; exact big c.num.bot
  have px := up_lt (ipow_lt h.bx n) hn
  have py := up_lt (ipow_lt hy n) hn
  have q1 := abs_mul_lt px hb
  have q2 := abs_mul_lt py (big c.num.top)
  exact ⟨px, py, mulFit_of px hb (by decide), mulFit_of py (big c.num.top) (by decide), q1, q2, abs_sub_lt q1 q2⟩
theorem root_in (c : Cx p n v a b) {w : IV} {x : Int} {y : Nat} (h : Rt w x y) (S : Sto) : own LW.m_is_power_root_in [.int p, v, .int n, w] S = .ok (.bl (rootB p n a b x y)) S := by
  have s := sz_ok c h
  have hd := due_ok c h.pos
  have hl := (lev_le c.hp c.n0 c.n12).1
  have pw1 := fun S => ipowI (n := n) h.bx (by decide) c.n12 S
  have pw2 := fun S => ipowI (x := (y : Int)) (n := n) (by rw [Int.natAbs_natCast]; exact h.by_) (by decide) c.n12 S
  have exn := ex_ok c.hp (n := (n : Int)) (by have := c.n0; omega) (M := 10) (by have := c.n12; omega) (by decide)
  have e2 := ex_ok c.hp hd.2 s.due (by decide)
  have e1 := fun z => ex_ok c.hp (n := x ^ n * b - (y : Int) ^ n * a) z s.less (by decide)
  have m1 := s.m1
  have m2 := s.m2
  have hm : mulFit 2 ((expo p (n : Int).natAbs : Nat) : Int) = true := mulFit_of (a := 10) (b := 10) (by decide) (by unfold lev EE at hl; omega) (by decide)
  have d1 := hd.1
  unfold EE at d1
  have x0 := h.x0
  have any := any_ok h
  have pr := pair_ok h.num
  have prv := pair_ok c.num.num
  have hfw := h.num.flat
  clear s hd h
  unfold rootB EE
  rw [← d1]
  generalize x ^ n = X at *
  generalize (y : Int) ^ n = Y at *
  refine own_eq (flat4 c hfw) rfl ?_ S
  refine wp_def [some (.int p), some v, some (.int n), some w, none, none, none, none, none, none] rfl ?_
  unfold LW.b_is_power_root_in
  repeat array_get_dec
  refine wp_eq (any _) ?_
  repeat array_get_dec
  refine wp_eq (pr _) ?_
  repeat array_get_dec
  refine cnd_no x0 ?_
  repeat array_get_dec
  refine wp_eq (pr _) ?_
  repeat array_get_dec
  refine wp_eq (prv _) ?_
  repeat array_get_dec
  refine wp_eq (pw1 _) ?_
  repeat array_get_dec
  refine wp_eq (pw2 _) ?_
  repeat array_get_dec
  refine cnd_dec (fun z => ?_) fun z => ?_
  · repeat array_get_dec
    rw [decide_eq_true z]; rfl
  · repeat array_get_dec
    refine wp_eq (e1 (by omega) _) ?_
    repeat array_get_dec
    refine wp_eq (e2 _) ?_
    repeat array_get_dec
    refine wp_eq (exn _) ?_
    repeat array_get_dec
    rw [decide_eq_false z, Bool.false_or]
/-- the law's judge of a root, behind the making of a pair -/
def lrt : MS :=
    (mSeq (mIfS (mOrT (mNotT (mTru (mCall bIsI (mCons (mV 3) (mCons (mC (.ty .tuple)) mNil))))) (mTB (mB fNe (mCall bLen (mCons (mV 3) mNil)) (mC (.int 2))))) (mRet (mC (.bl false))) mSkip)
    (mSeq (mIfS (mTB (mB fNe (mLc 1000000 (mSeqW (mV 3)) (.name 6) (mOrT (mTru (mCall bIsI (mCons (mV 6) (mCons (mC (.ty .bool)) mNil)))) (mNotT (mTru (mCall bIsI (mCons (mV 6) (mCons (mC (.ty .int)) mNil)))))) (mC (.int 1)) [6]) (mLst mNil))) (mRet (mC (.bl false))) mSkip)
    (mSeq (mIfS (mOrT (mTB (mB fLt (mB fIx (mV 3) (mC (.int 1))) (mC (.int 1)))) (mOrT (mTB (mB fNe (mCallO LW.m__law_gcd (mCons (mB fIx (mV 3) (mC (.int 0))) (mCons (mB fIx (mV 3) (mC (.int 1))) mNil))) (mC (.int 1)))) (mTB (mB fEq (mB fIx (mV 3) (mC (.int 0))) (mC (.int 0)))))) (mRet (mC (.bl false))) mSkip)
    (mSeq (mSet 4 (mB fSub (mB fMul (mCallO LW.m__law_power (mCons (mB fIx (mV 3) (mC (.int 0))) (mCons (mV 2) mNil))) (mB fIx (mV 1) (mC (.int 1)))) (mB fMul (mCallO LW.m__law_power (mCons (mB fIx (mV 3) (mC (.int 1))) (mCons (mV 2) mNil))) (mB fIx (mV 1) (mC (.int 0))))))
    (mSeq (mIfS (mTB (mB fEq (mV 4) (mC (.int 0)))) (mRet (mC (.bl true))) mSkip)
    (mSeq (mSet 5 (mB fAdd (mCallO LW.m__law_exponent (mCons (mV 0) (mCons (mB fIx (mV 1) (mC (.int 0))) mNil))) (mB fMul (mV 2) (mCallO LW.m__law_exponent (mCons (mV 0) (mCons (mB fIx (mV 3) (mC (.int 1))) mNil))))))
    (mRet (mB fGt (mB fSub (mCallO LW.m__law_exponent (mCons (mV 0) (mCons (mV 4) mNil))) (mV 5)) (mB fMul (mC (.int 2)) (mCallO LW.m__law_exponent (mCons (mV 0) (mCons (mV 2) mNil))))))))))))
theorem two_int {x y : Int} {i : Nat} {v : IV} (h : [IV.int x, IV.int y][i]? = some v) : ∃ e, v = .int e := by
  have := List.mem_of_getElem? h
  simp at this
  rcases this with rfl | rfl
  · exact ⟨_, rfl⟩
  · exact ⟨_, rfl⟩
theorem lrt_ok (c : Cx p n v a b) {w : IV} {x : Int} {y : Nat} (h : Rt w x y) : wf (lrt [some (.int p), some (.tup [.int a, .int b]), some (.int n), some (.tup [.int x, .int y]), none, none, none] ⟨0, []⟩) (KF.fn (fun w _ => w = .bl (rootB p n a b x y)) NoX) := by
  have s := sz_ok c h
  have hl := (lev_le c.hp c.n0 c.n12).1
  have hey : EE p (y : Int) < 1000 := expo_lt c.hp.two.1 (by have := h.pos; omega) (by rw [Int.natAbs_natCast]; exact h.by_)
  have pw1 := fun S => lpowI (n := n) h.bx (by decide) c.n12 S
  have pw2 := fun S => lpowI (x := (y : Int)) (n := n) (by rw [Int.natAbs_natCast]; exact h.by_) (by decide) c.n12 S
  have exn := lex_ok c.hp (n := (n : Int)) (by have := c.n0; omega) (M := 10) (by have := c.n12; omega) (by decide)
  have exa := lex_ok c.hp c.a0 (big c.num.top) (by decide)
  have exy := lex_ok c.hp (n := (y : Int)) (by have := h.pos; omega) (M := 1000) (by rw [Int.natAbs_natCast]; exact h.by_) (by decide)
  have e1 := fun z => lex_ok c.hp (n := x ^ n * b - (y : Int) ^ n * a) z s.less (by decide)
  have m1 := s.m1
  have m2 := s.m2
  have hm : mulFit 2 ((expo p (n : Int).natAbs : Nat) : Int) = true := mulFit_of (a := 10) (b := 10) (by decide) (by unfold lev EE at hl; omega) (by decide)
  unfold EE at hey
  have hmy : mulFit (n : Int) ((expo p (y : Int).natAbs : Nat) : Int) = true := mulFit_of (a := 10) (b := 10) (by have := c.n12; omega) (by omega) (by decide)
  have x0 := h.x0
  have y0 := h.pos
  have gg := fun S => own_flat (f := LW.m__law_gcd) (as := [.int x, .int y]) rfl (lgcd_ok x y 1000 ⟨0, []⟩ h.bx (by rw [Int.natAbs_natCast]; exact h.by_) (by decide)) rfl S
  rw [Int.natAbs_natCast, h.low] at gg
  clear s h
  unfold rootB EE
  generalize x ^ n = X at *
  generalize (y : Int) ^ n = Y at *
  unfold lrt
  repeat array_get_dec
  refine cnd_yes rfl ?_
  repeat array_get_dec
  refine .inl ⟨_, rfl, ?_⟩
  refine wp_lcGo (fun i acc S => acc = [] ∧ S = ⟨0, []⟩) (show 2 < 1000000 by decide) ⟨rfl, rfl⟩ ?_ ?_
  · rintro i z acc S hx ⟨rfl, rfl⟩
    obtain ⟨e, rfl⟩ := two_int hx
    unfold LcStep
    repeat array_get_dec
    exact ⟨rfl, rfl⟩
  rintro acc S ⟨rfl, rfl⟩
  repeat array_get_dec
  refine wp_neG (nil_new _) ?_
  repeat array_get_dec
  refine cnd_no (by omega) ?_
  repeat array_get_dec
  refine wp_eq (gg _) ?_
  repeat array_get_dec
  refine cnd_yes rfl ?_
  repeat array_get_dec
  refine cnd_no x0 ?_
  repeat array_get_dec
  refine wp_eq (pw1 _) ?_
  repeat array_get_dec
  refine wp_eq (pw2 _) ?_
  repeat array_get_dec
  refine cnd_dec (fun z => ?_) fun z => ?_
  · repeat array_get_dec
    rw [decide_eq_true (show X * (b : Int) = Y * a by omega)]; rfl
  · repeat array_get_dec
    refine wp_eq (exa _) ?_
    repeat array_get_dec
    refine wp_eq (exy _) ?_
    repeat array_get_dec
    refine wp_eq (e1 z _) ?_
    repeat array_get_dec
    refine wp_eq (exn _) ?_
    repeat array_get_dec
    rw [decide_eq_false (show ¬ X * (b : Int) = Y * a by omega), Bool.false_or, Int.natCast_add, Int.natCast_mul]
theorem lroot_in (c : Cx p n v a b) {w : IV} {x : Int} {y : Nat} (h : Rt w x y) (S : Sto) : own LW.m__law_is_root [.int p, .tup [.int a, .int b], .int n, w] S = .ok (.bl (rootB p n a b x y)) S := by
  have t := lrt_ok c h
  refine own_eq (by show (true && (true && (true && (flatR w && true)))) = true; rw [h.num.flat]; rfl) rfl ?_ S
  refine wp_def [some (.int p), some (.tup [.int a, .int b]), some (.int n), some w, none, none, none] rfl ?_
  have e0 : LW.b__law_is_root = mSeq (mIfS (mAndT (mTru (mCall bIsI (mCons (mV 3) (mCons (mC (.ty .int)) mNil)))) (mNotT (mTru (mCall bIsI (mCons (mV 3) (mCons (mC (.ty .bool)) mNil)))))) (mSet 3 (mTup (mCons (mV 3) (mCons (mC (.int 1)) mNil)))) mSkip) lrt := rfl
  rw [e0]
  rcases h.num with rfl | ⟨rfl, rfl⟩
  · repeat array_get_dec
    exact t
  · repeat array_get_dec
    exact t
theorem j_root (c : Cx p n v a b) {w : IV} {x : Int} {y : Nat} (h : Rt w x y) : Both p n v a b (.tup [.str "root", w]) (rootB p n a b x y) := by
  have hw := h.num.flat
  have he : ∀ S, eqIV S (.tup [.str "root", w]) (.tup []) = some false := fun S => by
    rcases h.num with rfl | ⟨rfl, _⟩ <;> kernel_rfl
  refine both_of c (by show (true && (flatR w && true)) = true; rw [hw]; rfl) ?_ (lp_cut c he ?_)
  · refine wp_def [some (.int p), some v, some (.int n), some (.tup [.str "root", w]), none] rfl ?_
    unfold LW.b_is_power_paper_in
    repeat array_get_dec
    refine wp_eqG (he _) ?_
    repeat array_get_dec
    refine cnd_no (show ¬ ((2 : Nat) : Int) = 1 by decide) ?_
    repeat array_get_dec
    refine cnd_yes rfl ?_
    repeat array_get_dec
    refine wp_eqG (rr _) ?_
    repeat array_get_dec
    refine wp_eq (root_in c h _) ?_
    repeat array_get_dec
    rfl
  · unfold lpr
    repeat array_get_dec
    refine wp_eqG (vr _) ?_
    repeat array_get_dec
    refine cnd_yes rfl ?_
    repeat array_get_dec
    refine wp_eqG (rs _) ?_
    repeat array_get_dec
    refine wp_eqG (rr _) ?_
    repeat array_get_dec
    refine wp_eq (lroot_in c h _) ?_
    repeat array_get_dec
    rfl
end
end P02

set_option Elab.async false
set_option linter.all false
set_option maxRecDepth 100000
set_option maxHeartbeats 2000000
set_option autoImplicit false
set_option pp.maxSteps 900
namespace P02
open PySem PySem.Spec PyProof.Rows L2 FX FX.Ar
local macro_rules | `(tactic| sizeOf_list_dec) => `(tactic| first | exact SetL.zero | (apply SetL.succ; sizeOf_list_dec) | (apply BindL.name; sizeOf_list_dec) | (apply BindL.tup; sizeOf_list_dec) | exact BindLs.nil | (apply BindLs.cons <;> sizeOf_list_dec))
local macro_rules | `(tactic| array_get_dec) => `(tactic| first
  | with_reducible refine wp_mB ?_
  | ((with_reducible apply wp_mV); rfl)
  | with_reducible refine wp_mC ?_
  | with_reducible refine wf_seq ?_
  | with_reducible refine wf_set ?_
  | ((with_reducible apply ex_set); sizeOf_list_dec)
  | ((with_reducible apply ex_bind); sizeOf_list_dec)
  | ((with_reducible apply ex_bindT); sizeOf_list_dec)
  | with_reducible refine kt_nx ?_
  | with_reducible refine wp_mCons ?_
  | with_reducible refine wp_mNil ?_
  | with_reducible refine wp_mCallO ?_
  | with_reducible refine wp_mCall ?_
  | with_reducible refine wp_add ?_
  | with_reducible refine wp_sub ?_
  | with_reducible refine wp_cmp ?_
  | with_reducible refine wp_eqI ?_
  | with_reducible refine wp_neI ?_
  | with_reducible refine ⟨_, rfl, ?_⟩
  | with_reducible refine cnd_t ?_
  | with_reducible refine cnd_f ?_
  | with_reducible refine cnd_not ?_
  | with_reducible refine cnd_nonT ?_
  | with_reducible refine cnd_nonI ?_
  | with_reducible refine cnd_nonU ?_
  | ((with_reducible apply cnd_isBt); rfl)
  | ((with_reducible apply cnd_isBf); rfl)
  | with_reducible refine wp_mTB ?_
  | with_reducible refine wf_if ?_
  | with_reducible refine wf_ret ?_
  | with_reducible refine kt_rt ?_
  | with_reducible refine kf_rt ?_
  | with_reducible refine kf_nx ?_
  | with_reducible refine kl_nx ?_
  | with_reducible refine kl_rt ?_
  | with_reducible refine wf_drop ?_
  | with_reducible refine wf_skip ?_
  | with_reducible refine wf_asg ?_
  | with_reducible refine wp_mTup ?_
  | with_reducible refine wp_mLst ?_
  | ((with_reducible refine ⟨?_, ?_⟩); exact fullLen_of (by simp only [List.length_cons, List.length_nil]; decide))
  | ((with_reducible refine wp_mul ?_ ?_); first | assumption | rfl)
  | ((with_reducible refine wp_div ?_ ?_); first | assumption | rfl)
  | ((with_reducible refine wp_divS ?_ ?_ ?_); first | assumption | omega; first | assumption | omega)
  | ((with_reducible refine wp_mod ?_ ?_); first | assumption | omega)
  | with_reducible refine wp_neg ?_
  | with_reducible refine wp_notV ?_
  | with_reducible refine wp_mU ?_
  | ((with_reducible refine wp_pow ?_ ?_); first | assumption | rfl)
  | (with_reducible refine wf_par ?_)
  | (with_reducible refine wf_par3 ?_)
  | ((with_reducible apply ex_par); sizeOf_list_dec; sizeOf_list_dec)
  | ((with_reducible apply ex_par3); sizeOf_list_dec; sizeOf_list_dec; sizeOf_list_dec)
  | ((with_reducible apply wf_aug); rfl)
  | with_reducible refine wp_addI ?_
  | with_reducible refine wp_mTru ?_
  | with_reducible refine wp_mAndT ?_
  | with_reducible refine wp_mOrT ?_
  | with_reducible refine wp_mNotT ?_
  | with_reducible refine wp_mYes ?_
  | with_reducible refine wp_mAndV ?_
  | with_reducible refine wp_mOrV ?_
  | with_reducible refine wp_mIf ?_
  | with_reducible refine wp_mChain ?_
  | with_reducible refine wp_mInR ?_
  | with_reducible refine wp_inRt ?_
  | with_reducible refine wp_inRf ?_
  | with_reducible refine wp_isN ?_
  | with_reducible refine wp_notN ?_
  | ((with_reducible apply wp_ixT); rfl)
  | ((with_reducible apply wp_ixL); assumption; rfl)
  | with_reducible refine wp_lenT ?_
  | with_reducible refine wp_lenF ?_
  | ((with_reducible apply wp_lenL); assumption)
  | with_reducible refine wp_abs ?_
  | with_reducible refine wp_int ?_
  | with_reducible refine wp_intB ?_
  | with_reducible refine wp_max ?_
  | with_reducible refine wp_min ?_
  | with_reducible refine wp_gcd ?_
  | with_reducible refine wp_tupT ?_
  | ((with_reducible apply wp_tupL); assumption)
  | with_reducible refine wp_listT ?_
  | ((with_reducible apply wp_isI); rfl; rfl)
  | with_reducible refine wp_mMet ?_
  | with_reducible refine wp_mSl ?_
  | with_reducible refine wp_mP ?_
  | with_reducible refine wp_mNoP ?_
  | with_reducible refine wp_slT ?_
  | with_reducible refine wp_revT ?_
  | with_reducible refine wf_for ?_
  | with_reducible refine wp_mWk ?_
  | with_reducible refine wp_seqT ?_
  | with_reducible refine wp_enumT ?_
  | with_reducible refine wp_lc ?_
  | with_reducible refine wf_brk ?_
  | with_reducible refine wf_cont ?_
  | with_reducible refine wf_retN ?_
  | with_reducible refine kl_ct ?_
  | with_reducible refine kl_bk ?_
  | with_reducible refine kt_bk ?_
  | with_reducible refine kt_ct ?_
  | with_reducible refine kt_ex ?_
  | with_reducible refine kl_ex ?_
  | with_reducible refine kf_ex ?_
  | with_reducible refine km_nx ?_
  | with_reducible refine km_rt ?_
  | ((with_reducible refine wp_mulI ?_ ?_); first | assumption | rfl)
  | with_reducible refine wp_dnew ?_)
theorem shift_pow (x M : Int) : ∀ n, M ∣ (x - M) ^ n - x ^ n
  | 0 => ⟨0, by rw [Int.pow_zero, Int.pow_zero]; omega⟩
  | n + 1 => by
    obtain ⟨c, hc⟩ := shift_pow x M n
    refine ⟨c * x - (x - M) ^ n, ?_⟩
    rw [Int.pow_succ, Int.pow_succ]
    generalize (x - M) ^ n = A at *
    generalize x ^ n = B at *
    grind
theorem nr_shift {M n u1 x : Nat} {u0 : Int} (h : Nr M n u0 u1 x) : (M : Int) ∣ ((x : Int) - M) ^ n * u1 - u0 := by
  obtain ⟨c, hc⟩ := shift_pow (x : Int) M n
  obtain ⟨d, hd⟩ := h
  refine ⟨c * u1 + d, ?_⟩
  generalize ((x : Int) - M) ^ n = A at *
  generalize (x : Int) ^ n = B at *
  grind
theorem root_pos {p n k α β L : Nat} {r a u0 b u1 : Int} (ha : a = ((p ^ α : Nat) : Int) * u0) (hb : b = ((p ^ β : Nat) : Int) * u1) (hs : α = β + n * k) (h : ((p ^ L : Nat) : Int) ∣ r ^ n * u1 - u0) :
    ((p ^ (α + L) : Nat) : Int) ∣ (r * ((p ^ k : Nat) : Int)) ^ n * b - ((1 : Nat) : Int) ^ n * a := by
  obtain ⟨c, hc⟩ := h
  refine ⟨c, ?_⟩
  have e1 : (((p ^ k : Nat) : Int)) ^ n = ((p ^ (n * k) : Nat) : Int) := by rw [Nat.mul_comm, Nat.pow_mul]; simp
  have e2 : ((p ^ α : Nat) : Int) = ((p ^ β : Nat) : Int) * ((p ^ (n * k) : Nat) : Int) := by rw [hs, Nat.pow_add, Int.natCast_mul]
  have e3 : (((1 : Nat) : Int)) ^ n = 1 := Int.one_pow
  have e4 : ((p ^ (α + L) : Nat) : Int) = ((p ^ α : Nat) : Int) * ((p ^ L : Nat) : Int) := by rw [Nat.pow_add, Int.natCast_mul]
  rw [Int.mul_pow, e1, e3, e4, ha, hb]
  generalize r ^ n = R at *
  generalize ((p ^ (n * k) : Nat) : Int) = K at *
  generalize ((p ^ β : Nat) : Int) = B at *
  generalize ((p ^ α : Nat) : Int) = A at *
  generalize ((p ^ L : Nat) : Int) = M at *
  grind
theorem root_neg {p n k α β L : Nat} {r a u0 b u1 : Int} (ha : a = ((p ^ α : Nat) : Int) * u0) (hb : b = ((p ^ β : Nat) : Int) * u1) (hs : β = α + n * k) (h : ((p ^ L : Nat) : Int) ∣ r ^ n * u1 - u0) :
    ((p ^ (β + L) : Nat) : Int) ∣ r ^ n * b - ((p ^ k : Nat) : Int) ^ n * a := by
  obtain ⟨c, hc⟩ := h
  refine ⟨c, ?_⟩
  have e1 : (((p ^ k : Nat) : Int)) ^ n = ((p ^ (n * k) : Nat) : Int) := by rw [Nat.mul_comm, Nat.pow_mul]; simp
  have e2 : ((p ^ β : Nat) : Int) = ((p ^ α : Nat) : Int) * ((p ^ (n * k) : Nat) : Int) := by rw [hs, Nat.pow_add, Int.natCast_mul]
  have e4 : ((p ^ (β + L) : Nat) : Int) = ((p ^ β : Nat) : Int) * ((p ^ L : Nat) : Int) := by rw [Nat.pow_add, Int.natCast_mul]
  rw [e1, e4, ha, hb]
  generalize r ^ n = R at *
  generalize ((p ^ (n * k) : Nat) : Int) = K at *
  generalize ((p ^ β : Nat) : Int) = B at *
  generalize ((p ^ α : Nat) : Int) = A at *
  generalize ((p ^ L : Nat) : Int) = M at *
  grind
section
variable {p n : Nat} {v : IV} {a : Int} {b : Nat}
/-- what is told -/
inductive Told (p n : Nat) (a : Int) (b : Nat) : IV → Prop
  | value : divB p n a b = false → Told p n a b (.tup [.str "value"])
  | rests : divB p n a b = true → np (p ^ lev p n) n (UU p a) (ub p b) = false → Told p n a b (.tup [.str "rests", .int (lev p n : Nat)])
  | root (w : IV) (x : Int) (y : Nat) : divB p n a b = true → np (p ^ lev p n) n (UU p a) (ub p b) = true → Rt w x y → x.natAbs < 2 ^ 300 → rootB p n a b x y = true → Told p n a b (.tup [.str "root", w])
theorem pw_small {q k : Nat} {m : Int} (hq : Pr q) (hm : m ≠ 0) (h : k ≤ EE q m) (h60 : m.natAbs < 10 ^ 60) : q ^ k < 10 ^ 60 := by
  have h1 := (expo_idvd (k := k) hq.two.1 hm).mp h
  have h2 : q ^ k ∣ m.natAbs := Int.ofNat_dvd_left.mp h1
  have := Nat.le_of_dvd (by omega) h2
  omega
theorem told_in (c : Cx p n v a b) : ∃ w, Told p n a b w ∧ flatR w = true ∧ ∀ S, own LW.m_power_paper_in [.int p, v, .int n] S = .ok w S := by
  have hf : flatRs [.int (p : Int), v, .int (n : Int)] = true := by show (true && (flatR v && true)) = true; rw [c.flat]; rfl
  have n0 := c.n0
  have n12 := c.n12
  have h2 := c.hp.two
  obtain ⟨l7, l4⟩ := lev_le c.hp c.n0 c.n12
  have hl0 : 1 ≤ lev p n := by unfold lev; omega
  have hM0 : 0 < p ^ lev p n := Nat.pow_pos (by omega)
  have sa := (EU_spec (q := p) h2.1 c.a0).1
  have sb := (EU_spec (q := p) (n := (b : Int)) h2.1 (by have := c.num.pos; omega)).1
  rw [(b_spec c.hp c.num.pos).2.2] at sb
  have ea := c.ea
  have eb := c.eb
  have main : wp (LW.m_power_paper_in [.int p, v, .int n] ⟨0, []⟩) (fun w _ => Told p n a b w ∧ flatR w = true) NoX := by
    refine wp_def [some (.int p), some v, some (.int n), none, none, none, none, none] rfl ?_
    unfold LW.b_power_paper_in
    repeat array_get_dec
    refine wp_eq (c.value _) ?_
    repeat array_get_dec
    refine cnd_dec (fun z => ?_) fun z => ?_
    · have hdiv : divB p n a b = true := decide_eq_true z
      have hD : divFit (n : Int) = true := divFit_of (a := 10) (by omega) (by omega) (by decide)
      have hns : (n : Int) * (((EE p a : Int) - (EE p (b : Int) : Int)) / (n : Int)) = (EE p a : Int) - (EE p (b : Int) : Int) := Int.mul_ediv_cancel' (Int.dvd_of_emod_eq_zero z)
      repeat array_get_dec
      refine wp_eq (plev_ok c.hp c.n0 c.n12 _) ?_
      repeat array_get_dec
      refine wp_eq (c.unit _) ?_
      repeat array_get_dec
      rcases rest_root_ok (l := lev p n) c.hp l4 (by omega) (by omega) c.n12 c.n0 c.u0 c.u1 c.uA with ⟨e, h⟩ | ⟨e, x, x0, xM, xp, hN, h⟩
      · refine wp_eq (h _) ?_
        repeat array_get_dec
        exact ⟨.rests hdiv e, rfl⟩
      · refine wp_eq (h _) ?_
        repeat array_get_dec
        refine wp_eq (pwx c.hp (by omega) _) ?_
        have hm2 : mulFit 2 (x : Int) = true := mulFit_of (a := 10) (b := 10) (by decide) (by omega) (by decide)
        repeat array_get_dec
        have hr : ∃ r : Int, (if 2 * x > p ^ lev p n then (x : Int) - ((p ^ lev p n : Nat) : Int) else (x : Int)) = r ∧ r.natAbs < 2 ^ 9 ∧ ¬ (p : Int) ∣ r ∧ ((p ^ lev p n : Nat) : Int) ∣ r ^ n * (ub p b : Nat) - UU p a := by
          have hxp : ¬ (p : Int) ∣ (x : Int) := fun q => xp (Nat.mod_eq_zero_of_dvd (Int.natCast_dvd_natCast.mp q))
          have hpM : (p : Int) ∣ ((p ^ lev p n : Nat) : Int) := Int.natCast_dvd_natCast.mpr (by
            cases hl : lev p n with
            | zero => omega
            | succ l => rw [Nat.pow_succ]; exact Nat.dvd_mul_left _ _)
          refine ⟨_, rfl, ?_, ?_, ?_⟩
          · split <;> omega
          · split
            · exact fun q => hxp ((Int.dvd_iff_dvd_of_dvd_sub (by rw [show (x : Int) - (x - ((p ^ lev p n : Nat) : Int)) = ((p ^ lev p n : Nat) : Int) by omega]; exact hpM)).mpr q)
            · exact hxp
          · split
            · exact nr_shift hN
            · exact hN
        obtain ⟨r, hr, r9, rp, rN⟩ := hr
        have r0 : r ≠ 0 := fun q => rp (q ▸ Int.dvd_zero _)
        refine cnd_vals (.int r) ⟨0, []⟩ (fun w => ?_) (fun w => ?_) ?_
        · rw [← hr, if_pos (by have := of_decide_eq_true w; omega)]; rfl
        · rw [← hr, if_neg (by have := of_decide_eq_false w; omega)]; rfl
        repeat array_get_dec
        generalize ((EE p a : Int) - (EE p (b : Int) : Int)) / (n : Int) = s at *
        refine cnd_dec (fun z1 => ?_) fun z1 => ?_
        · obtain ⟨k, rfl⟩ := Int.eq_ofNat_of_zero_le z1
          have hnk : EE p a = EE p (b : Int) + n * k := by
            have : ((n * k : Nat) : Int) = (EE p a : Int) - (EE p (b : Int) : Int) := by rw [Int.natCast_mul]; exact hns
            omega
          have hk : k ≤ n * k := Nat.le_mul_of_pos_left k n0
          have hk60 := pw_small c.hp c.a0 (show k ≤ EE p a by omega) c.num.top
          have hk200 : ((p ^ k : Nat) : Int).natAbs < 2 ^ 200 := by rw [Int.natAbs_natCast]; exact Nat.lt_trans hk60 (by decide)
          have hm : mulFit r ((p ^ k : Nat) : Int) = true := mulFit_of r9 hk200 (by decide)
          have hb := abs_mul_lt r9 hk200
          have hkp : 0 < p ^ k := Nat.pow_pos (by omega)
          repeat array_get_dec
          refine wp_eq (pwx c.hp (by omega) _) ?_
          repeat array_get_dec
          refine ⟨.root _ (r * ((p ^ k : Nat) : Int)) 1 hdiv e ⟨.inr ⟨rfl, rfl⟩, by decide, Nat.gcd_one_right _, Int.mul_ne_zero r0 (by omega), up_lt hb (by decide), by decide⟩ (up_lt hb (by decide)) ?_, rfl⟩
          refine root_true c.hp (k := EE p a) ?_ (root_pos sa sb hnk rN)
          rw [(EU_unit (q := p) (a := ((1 : Nat) : Int)) h2.1 (fun q => by have := Int.le_of_dvd (by decide) q; omega)).1]
          omega
        · obtain ⟨k, hk⟩ := Int.eq_ofNat_of_zero_le (show 0 ≤ -s by omega)
          have hnk : EE p (b : Int) = EE p a + n * k := by
            have : ((n * k : Nat) : Int) = -((EE p a : Int) - (EE p (b : Int) : Int)) := by rw [Int.natCast_mul, ← hk, Int.mul_neg, hns]
            omega
          have hkn : k ≤ n * k := Nat.le_mul_of_pos_left k n0
          have hk60 := pw_small (k := k) (m := (b : Int)) c.hp (by have := c.num.pos; omega) (by omega) (by rw [Int.natAbs_natCast]; exact c.num.bot)
          have hkp : 0 < p ^ k := Nat.pow_pos (by omega)
          repeat array_get_dec
          rw [hk]
          refine wp_eq (pwx c.hp (by omega) _) ?_
          repeat array_get_dec
          refine ⟨.root _ r (p ^ k) hdiv e ⟨.inl rfl, hkp, ?_, r0, up_lt r9 (by decide), big hk60⟩ (up_lt r9 (by decide)) ?_, rfl⟩
          · refine Nat.Coprime.pow_right k ?_
            exact Nat.Coprime.symm (c.hp.pr.cop fun q => rp (Int.ofNat_dvd_left.mpr q))
          · refine root_true c.hp (k := EE p (b : Int)) ?_ (root_neg sa sb hnk rN)
            rw [(EU_of (q := p) (k := k) (n := ((p ^ k : Nat) : Int)) (u := 1) h2.1 (by omega) (fun q => by have := Int.le_of_dvd (by decide) q; omega)).1]
            exact hnk
    · repeat array_get_dec
      exact ⟨.value (decide_eq_false z), rfl⟩
  obtain ⟨w, S', e, h1, h3⟩ := wp_ex main
  exact ⟨w, h1, h3, own_flat hf e h3⟩
theorem told_ok (c : Cx p n v a b) : ∃ w, Told p n a b w ∧ flatR w = true ∧ ∀ S, own LW.m_power_paper [.int p, v, .int n] S = .ok w S := by
  have hf : flatRs [.int (p : Int), v, .int (n : Int)] = true := by show (true && (flatR v && true)) = true; rw [c.flat]; rfl
  obtain ⟨w, h1, h2, h3⟩ := told_in c
  refine ⟨w, h1, h2, fun S => own_eq hf h2 ?_ S⟩
  refine wp_def [some (.int p), some v, some (.int n)] rfl ?_
  unfold LW.b_power_paper
  repeat array_get_dec
  refine wp_eq (req_power c _) ?_
  repeat array_get_dec
  refine wp_eq (h3 _) ?_
  rfl
end
end P02

set_option Elab.async false
set_option linter.all false
set_option maxRecDepth 100000
set_option maxHeartbeats 2000000
set_option autoImplicit false
set_option pp.maxSteps 900
namespace P02
open PySem PySem.Spec PyProof.Rows L2 FX FX.Ar
local macro_rules | `(tactic| sizeOf_list_dec) => `(tactic| first | exact SetL.zero | (apply SetL.succ; sizeOf_list_dec) | (apply BindL.name; sizeOf_list_dec) | (apply BindL.tup; sizeOf_list_dec) | exact BindLs.nil | (apply BindLs.cons <;> sizeOf_list_dec))
local macro_rules | `(tactic| array_get_dec) => `(tactic| first
  | with_reducible refine wp_mB ?_
  | ((with_reducible apply wp_mV); rfl)
  | with_reducible refine wp_mC ?_
  | with_reducible refine wf_seq ?_
  | with_reducible refine wf_set ?_
  | ((with_reducible apply ex_set); sizeOf_list_dec)
  | ((with_reducible apply ex_bind); sizeOf_list_dec)
  | ((with_reducible apply ex_bindT); sizeOf_list_dec)
  | with_reducible refine kt_nx ?_
  | with_reducible refine wp_mCons ?_
  | with_reducible refine wp_mNil ?_
  | with_reducible refine wp_mCallO ?_
  | with_reducible refine wp_mCall ?_
  | with_reducible refine wp_add ?_
  | with_reducible refine wp_sub ?_
  | with_reducible refine wp_cmp ?_
  | with_reducible refine wp_eqI ?_
  | with_reducible refine wp_neI ?_
  | with_reducible refine ⟨_, rfl, ?_⟩
  | with_reducible refine cnd_t ?_
  | with_reducible refine cnd_f ?_
  | with_reducible refine cnd_not ?_
  | with_reducible refine cnd_nonT ?_
  | with_reducible refine cnd_nonI ?_
  | with_reducible refine cnd_nonU ?_
  | ((with_reducible apply cnd_isBt); rfl)
  | ((with_reducible apply cnd_isBf); rfl)
  | with_reducible refine wp_mTB ?_
  | with_reducible refine wf_if ?_
  | with_reducible refine wf_ret ?_
  | with_reducible refine kt_rt ?_
  | with_reducible refine kf_rt ?_
  | with_reducible refine kf_nx ?_
  | with_reducible refine kl_nx ?_
  | with_reducible refine kl_rt ?_
  | with_reducible refine wf_drop ?_
  | with_reducible refine wf_skip ?_
  | with_reducible refine wf_asg ?_
  | with_reducible refine wp_mTup ?_
  | with_reducible refine wp_mLst ?_
  | ((with_reducible refine ⟨?_, ?_⟩); exact fullLen_of (by simp only [List.length_cons, List.length_nil]; decide))
  | ((with_reducible refine wp_mul ?_ ?_); first | assumption | rfl)
  | ((with_reducible refine wp_div ?_ ?_); first | assumption | rfl)
  | ((with_reducible refine wp_divS ?_ ?_ ?_); first | assumption | omega; first | assumption | omega)
  | ((with_reducible refine wp_mod ?_ ?_); first | assumption | omega)
  | with_reducible refine wp_neg ?_
  | with_reducible refine wp_notV ?_
  | with_reducible refine wp_mU ?_
  | ((with_reducible refine wp_pow ?_ ?_); first | assumption | rfl)
  | (with_reducible refine wf_par ?_)
  | (with_reducible refine wf_par3 ?_)
  | ((with_reducible apply ex_par); sizeOf_list_dec; sizeOf_list_dec)
  | ((with_reducible apply ex_par3); sizeOf_list_dec; sizeOf_list_dec; sizeOf_list_dec)
  | ((with_reducible apply wf_aug); rfl)
  | with_reducible refine wp_addI ?_
  | with_reducible refine wp_mTru ?_
  | with_reducible refine wp_mAndT ?_
  | with_reducible refine wp_mOrT ?_
  | with_reducible refine wp_mNotT ?_
  | with_reducible refine wp_mYes ?_
  | with_reducible refine wp_mAndV ?_
  | with_reducible refine wp_mOrV ?_
  | with_reducible refine wp_mIf ?_
  | with_reducible refine wp_mChain ?_
  | with_reducible refine wp_mInR ?_
  | with_reducible refine wp_inRt ?_
  | with_reducible refine wp_inRf ?_
  | with_reducible refine wp_isN ?_
  | with_reducible refine wp_notN ?_
  | ((with_reducible apply wp_ixT); rfl)
  | ((with_reducible apply wp_ixL); assumption; rfl)
  | with_reducible refine wp_lenT ?_
  | with_reducible refine wp_lenF ?_
  | ((with_reducible apply wp_lenL); assumption)
  | with_reducible refine wp_abs ?_
  | with_reducible refine wp_int ?_
  | with_reducible refine wp_intB ?_
  | with_reducible refine wp_max ?_
  | with_reducible refine wp_min ?_
  | with_reducible refine wp_gcd ?_
  | with_reducible refine wp_tupT ?_
  | ((with_reducible apply wp_tupL); assumption)
  | with_reducible refine wp_listT ?_
  | ((with_reducible apply wp_isI); rfl; rfl)
  | with_reducible refine wp_mMet ?_
  | with_reducible refine wp_mSl ?_
  | with_reducible refine wp_mP ?_
  | with_reducible refine wp_mNoP ?_
  | with_reducible refine wp_slT ?_
  | with_reducible refine wp_revT ?_
  | with_reducible refine wf_for ?_
  | with_reducible refine wp_mWk ?_
  | with_reducible refine wp_seqT ?_
  | with_reducible refine wp_enumT ?_
  | with_reducible refine wp_lc ?_
  | with_reducible refine wf_brk ?_
  | with_reducible refine wf_cont ?_
  | with_reducible refine wf_retN ?_
  | with_reducible refine kl_ct ?_
  | with_reducible refine kl_bk ?_
  | with_reducible refine kt_bk ?_
  | with_reducible refine kt_ct ?_
  | with_reducible refine kt_ex ?_
  | with_reducible refine kl_ex ?_
  | with_reducible refine kf_ex ?_
  | with_reducible refine km_nx ?_
  | with_reducible refine km_rt ?_
  | ((with_reducible refine wp_mulI ?_ ?_); first | assumption | rfl)
  | with_reducible refine wp_dnew ?_)
/-- a number other than 0 in lowest terms -/
structure Red (a : Int) (b : Nat) : Prop where
  a0 : a ≠ 0
  pos : 0 < b
  low : Nat.gcd a.natAbs b = 1
theorem red_low {x : Int} {y : Nat} (hx : x ≠ 0) (hy : 0 < y) : Red (x / ((Nat.gcd x.natAbs y : Nat) : Int)) (y / Nat.gcd x.natAbs y) := by
  have hg : 0 < Nat.gcd x.natAbs y := Nat.gcd_pos_of_pos_right _ hy
  have h1 : ((Nat.gcd x.natAbs y : Nat) : Int) ∣ x := Int.ofNat_dvd_left.mpr (Nat.gcd_dvd_left _ _)
  have h2 := Nat.coprime_div_gcd_div_gcd (m := x.natAbs) (n := y) hg
  have h3 : (x / ((Nat.gcd x.natAbs y : Nat) : Int)).natAbs = x.natAbs / Nat.gcd x.natAbs y := by
    rw [Int.natAbs_ediv_of_dvd h1, Int.natAbs_natCast]
  refine ⟨fun z => ?_, Nat.div_pos (Nat.le_of_dvd hy (Nat.gcd_dvd_right _ _)) hg, by rw [h3]; exact h2⟩
  have := Int.mul_ediv_cancel' h1
  rw [z, Int.mul_zero] at this
  exact hx this.symm
theorem low_le {x : Int} {y : Nat} (hy : 0 < y) : (x / ((Nat.gcd x.natAbs y : Nat) : Int)).natAbs ≤ x.natAbs ∧ y / Nat.gcd x.natAbs y ≤ y := by
  have h1 : ((Nat.gcd x.natAbs y : Nat) : Int) ∣ x := Int.ofNat_dvd_left.mpr (Nat.gcd_dvd_left _ _)
  rw [Int.natAbs_ediv_of_dvd h1, Int.natAbs_natCast]
  exact ⟨Nat.div_le_self _ _, Nat.div_le_self _ _⟩
theorem Red.pow {a : Int} {b n : Nat} (h : Red a b) : Red (a ^ n) (b ^ n) := by
  refine ⟨?_, Nat.pow_pos h.pos, ?_⟩
  · exact Int.pow_ne_zero h.a0
  · rw [Int.natAbs_pow]
    exact Nat.Coprime.pow _ _ h.low
theorem low_ok {x : Int} {y M : Nat} (hx : x.natAbs < 2 ^ M) (hy : y < 2 ^ M) (hp : 0 < y) (hM : M < 8000) (S : Sto) : own LW.m__law_lowest [.int x, .int y] S = .ok (.tup [.int (x / ((Nat.gcd x.natAbs y : Nat) : Int)), .int ((y / Nat.gcd x.natAbs y : Nat) : Int)]) S :=
  own_flat (f := LW.m__law_lowest) rfl (lowest_int x y M ⟨0, []⟩ hx hy hp hM) rfl S
theorem drawn_ok {p n : Nat} (hp : Pr p) (hn : n ≤ 12) {S : Sto} {d k : Nat} (hd : Dice.At S d k) (hk : k < 1000) {Q : IV → Sto → Prop} {X : Ex → Sto → Prop}
    (q : ∀ (a : Int) (b : Nat) S', Red a b → a.natAbs < 10 ^ 60 → b < 10 ^ 60 → Dice.At S' d (k + 20) → Q (.tup [.int a, .int b]) S') : wp (own LW.m__law_number_drawn [.ref d, .int p, .int n] S) Q X := by
  refine wp_ownC rfl ?_
  refine wp_def [some (.ref d), some (.int p), some (.int n), none, none, none, none, none] rfl ?_
  unfold LW.b__law_number_drawn
  have hlt := hd.lt
  have h2 := hp.two
  repeat array_get_dec
  refine Dice.wp_roll hd (by decide) (by decide) (by omega) fun r1 S1 b1 h1 k1 t1 => ?_
  repeat array_get_dec
  refine Dice.wp_one_of (h1.new _) (by have := h1.lt; omega) (get_new _ _) (by decide) (by decide) (by omega) fun v S2 hv hA2 k2 t2 => ?_
  obtain ⟨m, rfl, m1, m2⟩ : ∃ m : Nat, v = .int m ∧ 1 ≤ m ∧ m ≤ 9 := by
    simp only [List.mem_cons, List.not_mem_nil, or_false] at hv
    rcases hv with rfl | rfl | rfl
    · exact ⟨1, rfl, by decide, by decide⟩
    · exact ⟨1, rfl, by decide, by decide⟩
    · exact ⟨9, rfl, by decide, by decide⟩
  clear hv
  have dm : divFit (m : Int) = true := Ar.divFit_of (a := 200) (by omega) (by omega) (by decide)
  repeat array_get_dec
  refine Dice.wp_roll hA2 (by omega) dm (by omega) fun r2 S3 b3 h3 k3 t3 => ?_
  repeat array_get_dec
  refine Dice.wp_one_of (h3.new _) (by have := h3.lt; omega) (get_new _ _) (by decide) (by decide) (by omega) fun v S4 hv h4 k4 t4 => ?_
  obtain ⟨s, rfl, hs⟩ : ∃ s : Int, v = .int s ∧ (s = 1 ∨ s = -1) := by
    simp only [List.mem_cons, List.not_mem_nil, or_false] at hv
    rcases hv with rfl | rfl | rfl
    · exact ⟨1, rfl, .inl rfl⟩
    · exact ⟨1, rfl, .inl rfl⟩
    · exact ⟨-1, rfl, .inr rfl⟩
  clear hv
  have M1 : mulFit s (1 + (r1 : Int)) = true := mulFit_of (a := 10) (b := 10) (by omega) (by omega) (by decide)
  repeat array_get_dec
  refine Dice.wp_one_of (h4.new _) (by have := h4.lt; omega) (get_new _ _) (by decide) (by decide) (by omega) fun v S5 hv h5 k5 t5 => ?_
  obtain ⟨e, rfl, he⟩ : ∃ e : Nat, v = .int e ∧ e ≤ 3 := by
    simp only [List.mem_cons, List.not_mem_nil, or_false] at hv
    rcases hv with rfl | rfl | rfl | rfl | rfl
    · exact ⟨0, rfl, by decide⟩
    · exact ⟨0, rfl, by decide⟩
    · exact ⟨1, rfl, by decide⟩
    · exact ⟨2, rfl, by decide⟩
    · exact ⟨3, rfl, by decide⟩
  clear hv
  repeat array_get_dec
  refine wp_eq (lpwx hp (by omega) _) ?_
  have hpe : 0 < p ^ e := Nat.pow_pos (by omega)
  have hpe2 : p ^ e ≤ 8 ^ 3 := Nat.le_trans (Nat.pow_le_pow_left (by omega) e) (Nat.pow_le_pow_right (by decide) he)
  have hz : s * (1 + (r1 : Int)) ≠ 0 ∧ (s * (1 + (r1 : Int))).natAbs ≤ 30 := by
    rcases hs with rfl | rfl <;> omega
  generalize s * (1 + (r1 : Int)) = t at *
  generalize p ^ e = P at *
  have M2 : mulFit t (P : Int) = true := mulFit_of (a := 10) (b := 10) (by omega) (by omega) (by decide)
  repeat array_get_dec
  have hx0 : t * (P : Int) ≠ 0 := Int.mul_ne_zero hz.1 (by omega)
  have hxb : (t * (P : Int)).natAbs < 2 ^ 14 := by
    rw [Int.natAbs_mul, Int.natAbs_natCast]
    exact Nat.lt_of_le_of_lt (Nat.mul_le_mul hz.2 hpe2) (by decide)
  have e2 : (1 : Int) + (r2 : Int) = ((1 + r2 : Nat) : Int) := by omega
  rw [e2]
  refine wp_eq (low_ok (M := 14) hxb (by omega) (by omega) (by decide) _) ?_
  have hr := red_low hx0 (show 0 < 1 + r2 by omega)
  have hle := low_le (x := t * (P : Int)) (show 0 < 1 + r2 by omega)
  have hra : (t * (P : Int) / ((Nat.gcd (t * (P : Int)).natAbs (1 + r2) : Nat) : Int)).natAbs < 2 ^ 14 := Nat.lt_of_le_of_lt hle.1 hxb
  have hrb : (1 + r2) / Nat.gcd (t * (P : Int)).natAbs (1 + r2) < 2 ^ 14 := Nat.lt_of_le_of_lt hle.2 (by omega)
  clear hle
  generalize t * (P : Int) / ((Nat.gcd (t * (P : Int)).natAbs (1 + r2) : Nat) : Int) = a at *
  generalize (1 + r2) / Nat.gcd (t * (P : Int)).natAbs (1 + r2) = b at *
  clear M1 M2 hz hx0 hxb e2 dm b1 b3 hpe hpe2
  repeat array_get_dec
  refine Dice.wp_roll h5 (by decide) (by decide) (by omega) fun r3 S6 b6 h6 k6 t6 => ?_
  repeat array_get_dec
  refine cnd_mid (fun E S' => ∃ (a : Int) (b : Nat) (x3 x4 x5 x7 : Option IV), Red a b ∧ E = [some (.ref d), some (.int p), some (.int n), x3, x4, x5, some (.tup [.int a, .int b]), x7] ∧ Dice.At S' d (k + 20)) ?_ ?_
  · refine cnd_dec (fun z => ?_) fun z => ?_
    · have hb14 : ((b : Int)).natAbs < 2 ^ 14 := by rw [Int.natAbs_natCast]; exact hrb
      have ebp : (b : Int) ^ n = ((b ^ n : Nat) : Int) := by simp
      have hn14 : 14 * n + 1 ≤ 200 := by omega
      have pa := up_lt (ipow_lt hra n) hn14
      have pb := up_lt (ipow_lt hb14 n) hn14
      rw [ebp, Int.natAbs_natCast] at pb
      have hrp := hr.pow (n := n)
      repeat array_get_dec
      refine wp_eq (lpowI hra (by decide) hn _) ?_
      repeat array_get_dec
      refine wp_eq (lpowI hb14 (by decide) hn _) ?_
      rw [ebp]
      generalize a ^ n = A at *
      generalize b ^ n = B at *
      repeat array_get_dec
      refine Dice.wp_roll h6 (by decide) (by decide) (by omega) fun r4 S7 b7 h7 k7 t7 => ?_
      repeat array_get_dec
      refine wp_eq (lpwx hp (by omega) _) ?_
      have hq : p ^ r4 ≤ 8 ^ 8 := Nat.le_trans (Nat.pow_le_pow_left (by omega) r4) (Nat.pow_le_pow_right (by decide) (by omega))
      generalize p ^ r4 = P4 at *
      repeat array_get_dec
      refine Dice.wp_one_of (h7.new _) (by have := h7.lt; omega) (get_new _ _) (by decide) (by decide) (by omega) fun v S8 hv h8 k8 t8 => ?_
      obtain ⟨c, rfl, hc⟩ : ∃ c : Int, v = .int c ∧ c.natAbs < 2 ^ 2 := by
        simp only [List.mem_cons, List.not_mem_nil, or_false] at hv
        rcases hv with rfl | rfl | rfl | rfl
        · exact ⟨0, rfl, by decide⟩
        · exact ⟨1, rfl, by decide⟩
        · exact ⟨-1, rfl, by decide⟩
        · exact ⟨2, rfl, by decide⟩
      have hP4 : ((P4 : Int)).natAbs < 2 ^ 25 := by rw [Int.natAbs_natCast]; exact Nat.lt_of_le_of_lt hq (by decide)
      have M3 : mulFit (P4 : Int) c = true := mulFit_of hP4 hc (by decide)
      have hmo := abs_mul_lt hP4 hc
      repeat array_get_dec
      generalize (P4 : Int) * c = w at *
      refine cnd_dec (fun z2 => ?_) fun z2 => ?_
      · repeat array_get_dec
        exact ⟨A, B, _, _, _, _, hrp, rfl, At_mono h8 (by omega)⟩
      · repeat array_get_dec
        have hsum : (A + w).natAbs < 2 ^ 201 := by
          have := up_lt hmo (show 25 + 2 ≤ 200 by decide)
          rw [show (201 : Nat) = 200 + 1 from rfl, Nat.pow_succ]
          omega
        refine wp_eq (low_ok (M := 201) hsum (up_lt pb (by decide)) hrp.pos (by decide) _) ?_
        repeat array_get_dec
        exact ⟨_, _, _, _, _, _, red_low z2 hrp.pos, rfl, At_mono h8 (by omega)⟩
    · repeat array_get_dec
      exact ⟨a, b, _, _, _, _, hr, rfl, At_mono h6 (by omega)⟩
  rintro E S7 ⟨A, B, x3, x4, x5, x7, hR, rfl, h7⟩
  have h59 : ((10 : Int) ^ (Int.toNat 59)) = 100000000000000000000000000000000000000000000000000000000000 := by decide
  have h60 : (10 : Nat) ^ 60 = 1000000000000000000000000000000000000000000000000000000000000 := by decide
  repeat array_get_dec
  rw [h59]
  refine cnd_dec (fun z => ?_) fun z => ?_
  · repeat array_get_dec
    refine q A B S7 hR ?_ ?_ h7
    · split at z <;> split at z <;> omega
    · split at z <;> split at z <;> omega
  · repeat array_get_dec
    exact q 3 2 S7 ⟨by decide, by decide, by decide⟩ (by decide) (by decide) h7
end P02

set_option Elab.async false
set_option linter.all false
set_option maxRecDepth 100000
set_option maxHeartbeats 2000000
set_option autoImplicit false
set_option pp.maxSteps 900
namespace P02
open PySem PySem.Spec PyProof.Rows L2 FX FX.Ar
local macro_rules | `(tactic| sizeOf_list_dec) => `(tactic| first | exact SetL.zero | (apply SetL.succ; sizeOf_list_dec) | (apply BindL.name; sizeOf_list_dec) | (apply BindL.tup; sizeOf_list_dec) | exact BindLs.nil | (apply BindLs.cons <;> sizeOf_list_dec))
local macro_rules | `(tactic| array_get_dec) => `(tactic| first
  | with_reducible refine wp_mB ?_
  | ((with_reducible apply wp_mV); rfl)
  | with_reducible refine wp_mC ?_
  | with_reducible refine wf_seq ?_
  | with_reducible refine wf_set ?_
  | ((with_reducible apply ex_set); sizeOf_list_dec)
  | ((with_reducible apply ex_bind); sizeOf_list_dec)
  | ((with_reducible apply ex_bindT); sizeOf_list_dec)
  | with_reducible refine kt_nx ?_
  | with_reducible refine wp_mCons ?_
  | with_reducible refine wp_mNil ?_
  | with_reducible refine wp_mCallO ?_
  | with_reducible refine wp_mCall ?_
  | with_reducible refine wp_add ?_
  | with_reducible refine wp_sub ?_
  | with_reducible refine wp_cmp ?_
  | with_reducible refine wp_eqI ?_
  | with_reducible refine wp_neI ?_
  | with_reducible refine ⟨_, rfl, ?_⟩
  | with_reducible refine cnd_t ?_
  | with_reducible refine cnd_f ?_
  | with_reducible refine cnd_not ?_
  | with_reducible refine cnd_nonT ?_
  | with_reducible refine cnd_nonI ?_
  | with_reducible refine cnd_nonU ?_
  | ((with_reducible apply cnd_isBt); rfl)
  | ((with_reducible apply cnd_isBf); rfl)
  | with_reducible refine wp_mTB ?_
  | with_reducible refine wf_if ?_
  | with_reducible refine wf_ret ?_
  | with_reducible refine kt_rt ?_
  | with_reducible refine kf_rt ?_
  | with_reducible refine kf_nx ?_
  | with_reducible refine kl_nx ?_
  | with_reducible refine kl_rt ?_
  | with_reducible refine wf_drop ?_
  | with_reducible refine wf_skip ?_
  | with_reducible refine wf_asg ?_
  | with_reducible refine wp_mTup ?_
  | with_reducible refine wp_mLst ?_
  | ((with_reducible refine ⟨?_, ?_⟩); exact fullLen_of (by simp only [List.length_cons, List.length_nil]; decide))
  | ((with_reducible refine wp_mul ?_ ?_); first | assumption | rfl)
  | ((with_reducible refine wp_div ?_ ?_); first | assumption | rfl)
  | ((with_reducible refine wp_divS ?_ ?_ ?_); first | assumption | omega; first | assumption | omega)
  | ((with_reducible refine wp_mod ?_ ?_); first | assumption | omega)
  | with_reducible refine wp_neg ?_
  | with_reducible refine wp_notV ?_
  | with_reducible refine wp_mU ?_
  | ((with_reducible refine wp_pow ?_ ?_); first | assumption | rfl)
  | (with_reducible refine wf_par ?_)
  | (with_reducible refine wf_par3 ?_)
  | ((with_reducible apply ex_par); sizeOf_list_dec; sizeOf_list_dec)
  | ((with_reducible apply ex_par3); sizeOf_list_dec; sizeOf_list_dec; sizeOf_list_dec)
  | ((with_reducible apply wf_aug); rfl)
  | with_reducible refine wp_addI ?_
  | with_reducible refine wp_mTru ?_
  | with_reducible refine wp_mAndT ?_
  | with_reducible refine wp_mOrT ?_
  | with_reducible refine wp_mNotT ?_
  | with_reducible refine wp_mYes ?_
  | with_reducible refine wp_mAndV ?_
  | with_reducible refine wp_mOrV ?_
  | with_reducible refine wp_mIf ?_
  | with_reducible refine wp_mChain ?_
  | with_reducible refine wp_mInR ?_
  | with_reducible refine wp_inRt ?_
  | with_reducible refine wp_inRf ?_
  | with_reducible refine wp_isN ?_
  | with_reducible refine wp_notN ?_
  | ((with_reducible apply wp_ixT); rfl)
  | ((with_reducible apply wp_ixL); assumption; rfl)
  | with_reducible refine wp_lenT ?_
  | with_reducible refine wp_lenF ?_
  | ((with_reducible apply wp_lenL); assumption)
  | with_reducible refine wp_abs ?_
  | with_reducible refine wp_int ?_
  | with_reducible refine wp_intB ?_
  | with_reducible refine wp_max ?_
  | with_reducible refine wp_min ?_
  | with_reducible refine wp_gcd ?_
  | with_reducible refine wp_tupT ?_
  | ((with_reducible apply wp_tupL); assumption)
  | with_reducible refine wp_listT ?_
  | ((with_reducible apply wp_isI); rfl; rfl)
  | with_reducible refine wp_mMet ?_
  | with_reducible refine wp_mSl ?_
  | with_reducible refine wp_mP ?_
  | with_reducible refine wp_mNoP ?_
  | with_reducible refine wp_slT ?_
  | with_reducible refine wp_revT ?_
  | with_reducible refine wf_for ?_
  | with_reducible refine wp_mWk ?_
  | with_reducible refine wp_seqT ?_
  | with_reducible refine wp_enumT ?_
  | with_reducible refine wp_lc ?_
  | with_reducible refine wf_brk ?_
  | with_reducible refine wf_cont ?_
  | with_reducible refine wf_retN ?_
  | with_reducible refine kl_ct ?_
  | with_reducible refine kl_bk ?_
  | with_reducible refine kt_bk ?_
  | with_reducible refine kt_ct ?_
  | with_reducible refine kt_ex ?_
  | with_reducible refine kl_ex ?_
  | with_reducible refine kf_ex ?_
  | with_reducible refine km_nx ?_
  | with_reducible refine km_rt ?_
  | ((with_reducible refine wp_mulI ?_ ?_); first | assumption | rfl)
  | with_reducible refine wp_dnew ?_)
theorem eqIV_bl (S : Sto) (b c : Bool) : eqIV S (.bl b) (.bl c) = some (b == c) := by
  cases b <;> cases c <;> rfl
theorem ty_ref {S : Sto} {m : Nat} {xs : List IV} (g : S.get m = some (.lst xs)) : tyOf S (.ref m) = some .list := by
  show (match S.get m with | some (.lst _) => some FX.BT.list | _ => none) = _
  rw [g]
theorem cnd_andv {c : Bool} {r : R IV} {Q : IV → Sto → Prop} {X : Ex → Sto → Prop} (v : IV) (S : Sto) (h1 : c = true → wp r (fun w S' => w = v ∧ S' = S) NoX) (h2 : c = false → v = .bl false) (h : Q v S) : cnd c (wp r Q X) (Q (.bl false) S) :=
  ⟨fun e => wp_imp (h1 e) (by rintro w S' ⟨rfl, rfl⟩; exact h), fun e => by rw [← h2 e]; exact h⟩
theorem wp_addA {S : Sto} {n m : Nat} {xs ys : List IV} {Q : IV → Sto → Prop} {X : Ex → Sto → Prop} (g : S.get n = some (.lst xs)) (g' : S.get m = some (.lst ys)) (hl : xs.length + ys.length < 1000000) (h : ∀ S' k, Keep S S' → S'.get k = some (.lst (xs ++ ys)) → S.top ≤ k → Q (.ref k) S') : wp (fAdd (.ref n) (.ref m) S) Q X :=
  wp_addL g g' hl (h _ _ (Keep.new _ _) (get_new _ _) (Nat.le_refl _))
section
variable {p n : Nat} {v : IV} {a : Int} {b : Nat}
theorem nf_prog (c : Cx p n v a b) {S : Sto} {m : Nat} {xs : List IV} (g : S.get m = some (.lst xs)) {Q : IV → Sto → Prop} {X : Ex → Sto → Prop} (q : Q (.bl false) S) : wp (own LW.m_is_power_paper [.int p, v, .int n, .ref m] S) Q X := by
  have hf : ∀ w : IV, flatR w = false → flatRs [.int (p : Int), v, .int (n : Int), w] = false := fun w h => by
    show (true && (flatR v && (true && (flatR w && true)))) = false
    rw [h]; cases flatR v <;> rfl
  refine wp_ownC (hf _ rfl) ?_
  refine wp_def [some (.int p), some v, some (.int n), some (.ref m)] rfl ?_
  unfold LW.b_is_power_paper
  repeat array_get_dec
  refine wp_eq (req_power c _) ?_
  repeat array_get_dec
  refine wp_ownC (hf _ rfl) ?_
  refine wp_def [some (.int p), some v, some (.int n), some (.ref m), none] rfl ?_
  unfold LW.b_is_power_paper_in
  repeat array_get_dec
  refine wp_isI (ty_ref g) rfl ?_
  repeat array_get_dec
  exact q
theorem nf_law {S : Sto} {m : Nat} {xs : List IV} (g : S.get m = some (.lst xs)) {Q : IV → Sto → Prop} {X : Ex → Sto → Prop} (q : Q (.bl false) S) : wp (own LW.m__law_is_paper [.int p, .tup [.int a, .int b], .int n, .ref m] S) Q X := by
  refine wp_ownC rfl ?_
  refine wp_def [some (.int p), some (.tup [.int a, .int b]), some (.int n), some (.ref m), none, none] rfl ?_
  unfold LW.b__law_is_paper
  repeat array_get_dec
  refine wp_isI (ty_ref g) rfl ?_
  repeat array_get_dec
  exact q
/-- a value on which both judges agree -/
def Agree (p n : Nat) (v : IV) (a : Int) (b : Nat) (S : Sto) (w : IV) : Prop := (∃ r, Both p n v a b w r) ∨ (∃ m xs, w = .ref m ∧ S.get m = some (.lst xs))
theorem Agree.keep {S S' : Sto} {w : IV} (h : Agree p n v a b S w) (k : Keep S S') : Agree p n v a b S' w := by
  rcases h with h | ⟨m, xs, e, g⟩
  · exact .inl h
  · exact .inr ⟨m, xs, e, k _ _ g⟩
theorem Agree.keepBut {S S' : Sto} {d k : Nat} {w : IV} (h : Agree p n v a b S w) (kb : Dice.KeepBut d S S') (hA : Dice.At S' d k) : Agree p n v a b S' w := by
  rcases h with h | ⟨m, zs, e, g'⟩
  · exact .inl h
  · by_cases hm : m = d
    · obtain ⟨x, y, z, gg, _⟩ := hA
      exact .inr ⟨m, _, e, by rw [hm]; exact gg⟩
    · exact .inr ⟨m, zs, e, kb _ _ hm g'⟩
theorem Agree.put {S : Sto} {i : Nat} {xs ys : List IV} {w : IV} (h : Agree p n v a b S w) (g : S.get i = some (.lst xs)) : Agree p n v a b (S.put i (.lst ys)) w := by
  rcases h with h | ⟨m, zs, e, g'⟩
  · exact .inl h
  · by_cases hm : m = i
    · exact .inr ⟨m, ys, e, by rw [hm]; exact get_put g⟩
    · exact .inr ⟨m, zs, e, by rw [get_put_ne g hm]; exact g'⟩
theorem agree_step (c : Cx p n v a b) {S : Sto} {w : IV} (hw : Agree p n v a b S w) {Q : IV → Sto → Prop} {X : Ex → Sto → Prop} (q : Q (.bl false) S) {E : Env'} (e1 : E[1]? = some (some (.int p))) (e2 : E[2]? = some (some (.int n))) (e3 : E[3]? = some (some (.tup [.int a, .int b]))) (e6 : E[6]? = some (some v)) (e11 : E[11]? = some (some w)) :
    wp (mB fNe (mCallO LW.m_is_power_paper (mCons (mV 1) (mCons (mV 6) (mCons (mV 2) (mCons (mV 11) mNil))))) (mCallO LW.m__law_is_paper (mCons (mV 1) (mCons (mV 3) (mCons (mV 2) (mCons (mV 11) mNil))))) E S) Q X := by
  have v1 : ∀ S, mV 1 E S = .ok (.int p) S := fun S => by unfold mV; rw [e1]
  have v2 : ∀ S, mV 2 E S = .ok (.int n) S := fun S => by unfold mV; rw [e2]
  have v3 : ∀ S, mV 3 E S = .ok (.tup [.int a, .int b]) S := fun S => by unfold mV; rw [e3]
  have v6 : ∀ S, mV 6 E S = .ok v S := fun S => by unfold mV; rw [e6]
  have v11 : ∀ S, mV 11 E S = .ok w S := fun S => by unfold mV; rw [e11]
  refine wp_mB ?_
  refine wp_mCallO ?_
  refine wp_mCons ?_
  refine wp_eq (v1 _) ?_
  refine wp_mCons ?_
  refine wp_eq (v6 _) ?_
  refine wp_mCons ?_
  refine wp_eq (v2 _) ?_
  refine wp_mCons ?_
  refine wp_eq (v11 _) ?_
  refine wp_mNil ?_
  have second : ∀ r : Bool, wp (own LW.m__law_is_paper [.int p, .tup [.int a, .int b], .int n, w] S) (fun y S1 => wp (fNe (.bl r) y S1) Q X) X → wp (mCallO LW.m__law_is_paper (mCons (mV 1) (mCons (mV 3) (mCons (mV 2) (mCons (mV 11) mNil)))) E S) (fun y S1 => wp (fNe (.bl r) y S1) Q X) X := fun r h => by
    refine wp_mCallO ?_
    refine wp_mCons ?_
    refine wp_eq (v1 _) ?_
    refine wp_mCons ?_
    refine wp_eq (v3 _) ?_
    refine wp_mCons ?_
    refine wp_eq (v2 _) ?_
    refine wp_mCons ?_
    refine wp_eq (v11 _) ?_
    exact wp_mNil h
  rcases hw with ⟨r, hb⟩ | ⟨m, xs, rfl, g⟩
  · refine wp_eq (hb.prog S) (second r ?_)
    refine wp_eq (hb.law S) ?_
    refine wp_neG (eqIV_bl _ _ _) ?_
    rw [beq_self_eq_true]
    exact q
  · refine nf_prog c g (second _ ?_)
    refine nf_law g ?_
    exact wp_neG (eqIV_bl _ _ _) q
theorem j_int (c : Cx p n v a b) {t : Int} (h : t.natAbs < 2 ^ 1000) : ∃ r, Both p n v a b (.tup [.str "root", .int t]) r := by
  by_cases z : t = 0
  · subst z; exact ⟨_, k_r0 c⟩
  · exact ⟨_, j_root c (w := .int t) ⟨.inr ⟨rfl, rfl⟩, by decide, Nat.gcd_one_right _, z, h, by decide⟩⟩
theorem j_unit (c : Cx p n v a b) : ∃ r, Both p n v a b (.tup [.str "root", .tup [.int (UU p a), .int (ub p b : Nat)]]) r :=
  ⟨_, j_root c ⟨.inl rfl, c.ub0, c.ucop, fun z => c.u0 (z ▸ Int.dvd_zero _), c.uA, c.uB⟩⟩
/-- what matters of a told paper -/
theorem told_use (c : Cx p n v a b) {t : IV} (h : Told p n a b t) : ∃ (s0 : PySem.Str) (r0 : List IV) (P : Bool), t = .tup (.str s0 :: r0) ∧ Both p n v a b t true ∧ (∀ S, eqIV S (.str s0) (.str "root") = some P) ∧ P = (divB p n a b && np (p ^ lev p n) n (UU p a) (ub p b)) ∧
    (P = true → ∃ w, r0 = [w] ∧ ((∃ x : Int, w = .int x ∧ x.natAbs < 2 ^ 300) ∨ ∃ xs, w = .tup xs)) := by
  obtain ⟨l7, _⟩ := lev_le c.hp c.n0 c.n12
  have hl0 : 1 ≤ lev p n := by unfold lev; omega
  cases h with
  | value e =>
    refine ⟨"value", [], false, rfl, ?_, fun S => by kernel_rfl, by rw [e]; rfl, fun z => by cases z⟩
    have := j_value c
    rw [e] at this
    exact this
  | rests e e2 =>
    refine ⟨"rests", _, false, rfl, ?_, fun S => sr S, by rw [e, e2]; rfl, fun z => by cases z⟩
    have := j_rests c (k := lev p n) hl0 (by omega)
    rw [Nat.min_self, e2] at this
    exact this
  | root w x y e e2 hr hx hb =>
    refine ⟨"root", [w], true, rfl, ?_, fun S => rr S, by rw [e, e2]; rfl, fun _ => ⟨w, rfl, ?_⟩⟩
    · have := j_root c hr
      rw [hb] at this
      exact this
    · rcases hr.num with rfl | ⟨rfl, _⟩
      · exact .inr ⟨_, rfl⟩
      · exact .inl ⟨_, rfl, hx⟩
end
end P02

set_option Elab.async false
set_option linter.all false
set_option maxRecDepth 100000
set_option maxHeartbeats 2000000
set_option autoImplicit false
set_option pp.maxSteps 900
namespace P02
open PySem PySem.Spec PyProof.Rows L2 FX FX.Ar
local macro_rules | `(tactic| sizeOf_list_dec) => `(tactic| first | exact SetL.zero | (apply SetL.succ; sizeOf_list_dec) | (apply BindL.name; sizeOf_list_dec) | (apply BindL.tup; sizeOf_list_dec) | exact BindLs.nil | (apply BindLs.cons <;> sizeOf_list_dec))
local macro_rules | `(tactic| array_get_dec) => `(tactic| first
  | with_reducible refine wp_mB ?_
  | ((with_reducible apply wp_mV); rfl)
  | with_reducible refine wp_mC ?_
  | with_reducible refine wf_seq ?_
  | with_reducible refine wf_set ?_
  | ((with_reducible apply ex_set); sizeOf_list_dec)
  | ((with_reducible apply ex_bind); sizeOf_list_dec)
  | ((with_reducible apply ex_bindT); sizeOf_list_dec)
  | with_reducible refine kt_nx ?_
  | with_reducible refine wp_mCons ?_
  | with_reducible refine wp_mNil ?_
  | with_reducible refine wp_mCallO ?_
  | with_reducible refine wp_mCall ?_
  | with_reducible refine wp_add ?_
  | with_reducible refine wp_sub ?_
  | with_reducible refine wp_cmp ?_
  | with_reducible refine wp_eqI ?_
  | with_reducible refine wp_neI ?_
  | with_reducible refine ⟨_, rfl, ?_⟩
  | with_reducible refine cnd_t ?_
  | with_reducible refine cnd_f ?_
  | with_reducible refine cnd_not ?_
  | with_reducible refine cnd_nonT ?_
  | with_reducible refine cnd_nonI ?_
  | with_reducible refine cnd_nonU ?_
  | ((with_reducible apply cnd_isBt); rfl)
  | ((with_reducible apply cnd_isBf); rfl)
  | with_reducible refine wp_mTB ?_
  | with_reducible refine wf_if ?_
  | with_reducible refine wf_ret ?_
  | with_reducible refine kt_rt ?_
  | with_reducible refine kf_rt ?_
  | with_reducible refine kf_nx ?_
  | with_reducible refine kl_nx ?_
  | with_reducible refine kl_rt ?_
  | with_reducible refine wf_drop ?_
  | with_reducible refine wf_skip ?_
  | with_reducible refine wf_asg ?_
  | with_reducible refine wp_mTup ?_
  | with_reducible refine wp_mLst ?_
  | ((with_reducible refine ⟨?_, ?_⟩); exact fullLen_of (by simp only [List.length_cons, List.length_nil]; decide))
  | ((with_reducible refine wp_mul ?_ ?_); first | assumption | rfl)
  | ((with_reducible refine wp_div ?_ ?_); first | assumption | rfl)
  | ((with_reducible refine wp_divS ?_ ?_ ?_); first | assumption | omega; first | assumption | omega)
  | ((with_reducible refine wp_mod ?_ ?_); first | assumption | omega)
  | with_reducible refine wp_neg ?_
  | with_reducible refine wp_notV ?_
  | with_reducible refine wp_mU ?_
  | ((with_reducible refine wp_pow ?_ ?_); first | assumption | rfl)
  | (with_reducible refine wf_par ?_)
  | (with_reducible refine wf_par3 ?_)
  | ((with_reducible apply ex_par); sizeOf_list_dec; sizeOf_list_dec)
  | ((with_reducible apply ex_par3); sizeOf_list_dec; sizeOf_list_dec; sizeOf_list_dec)
  | ((with_reducible apply wf_aug); rfl)
  | with_reducible refine wp_addI ?_
  | with_reducible refine wp_mTru ?_
  | with_reducible refine wp_mAndT ?_
  | with_reducible refine wp_mOrT ?_
  | with_reducible refine wp_mNotT ?_
  | with_reducible refine wp_mYes ?_
  | with_reducible refine wp_mAndV ?_
  | with_reducible refine wp_mOrV ?_
  | with_reducible refine wp_mIf ?_
  | with_reducible refine wp_mChain ?_
  | with_reducible refine wp_mInR ?_
  | with_reducible refine wp_inRt ?_
  | with_reducible refine wp_inRf ?_
  | with_reducible refine wp_isN ?_
  | with_reducible refine wp_notN ?_
  | ((with_reducible apply wp_ixT); rfl)
  | ((with_reducible apply wp_ixL); assumption; rfl)
  | with_reducible refine wp_lenT ?_
  | with_reducible refine wp_lenF ?_
  | ((with_reducible apply wp_lenL); assumption)
  | with_reducible refine wp_abs ?_
  | with_reducible refine wp_int ?_
  | with_reducible refine wp_intB ?_
  | with_reducible refine wp_max ?_
  | with_reducible refine wp_min ?_
  | with_reducible refine wp_gcd ?_
  | with_reducible refine wp_tupT ?_
  | ((with_reducible apply wp_tupL); assumption)
  | with_reducible refine wp_listT ?_
  | ((with_reducible apply wp_isI); rfl; rfl)
  | with_reducible refine wp_mMet ?_
  | with_reducible refine wp_mSl ?_
  | with_reducible refine wp_mP ?_
  | with_reducible refine wp_mNoP ?_
  | with_reducible refine wp_slT ?_
  | with_reducible refine wp_revT ?_
  | with_reducible refine wf_for ?_
  | with_reducible refine wp_mWk ?_
  | with_reducible refine wp_seqT ?_
  | with_reducible refine wp_enumT ?_
  | with_reducible refine wp_lc ?_
  | with_reducible refine wf_brk ?_
  | with_reducible refine wf_cont ?_
  | with_reducible refine wf_retN ?_
  | with_reducible refine kl_ct ?_
  | with_reducible refine kl_bk ?_
  | with_reducible refine kt_bk ?_
  | with_reducible refine kt_ct ?_
  | with_reducible refine kt_ex ?_
  | with_reducible refine kl_ex ?_
  | with_reducible refine kf_ex ?_
  | with_reducible refine km_nx ?_
  | with_reducible refine km_rt ?_
  | ((with_reducible refine wp_mulI ?_ ?_); first | assumption | rfl)
  | with_reducible refine wp_dnew ?_)
section
variable {p n : Nat} {v : IV} {a : Int} {b : Nat}
/-- a list of values on which both judges agree -/
def Lot (p n : Nat) (v : IV) (a : Int) (b : Nat) (i N : Nat) (S : Sto) : Prop := ∃ xs, S.get i = some (.lst xs) ∧ (∀ w ∈ xs, Agree p n v a b S w) ∧ xs.length ≤ N
theorem Lot.app {i N : Nat} {S : Sto} {w : IV} {Q : IV → Sto → Prop} {X : Ex → Sto → Prop} (h : Lot p n v a b i N S) (hN : N < 1000) (hw : ∃ r, Both p n v a b w r) (q : ∀ S', Lot p n v a b i (N + 1) S' → Q .non S') : wp (fAppend (.ref i) [w] S) Q X := by
  obtain ⟨xs, g, hA, hl⟩ := h
  refine wp_append g (by omega) (q _ ⟨_, get_put g, fun u hu => ?_, by rw [List.length_append]; show _ + 1 ≤ _; omega⟩)
  rcases List.mem_append.mp hu with h | h
  · exact (hA u h).put g
  · obtain rfl := List.mem_singleton.mp h
    exact .inl hw
theorem final_ok (c : Cx p n v a b) {E : Env'} {S : Sto} {i N : Nat} (h : Lot p n v a b i N S) (hN : N < 1000) (e1 : E[1]? = some (some (.int p))) (e2 : E[2]? = some (some (.int n))) (e3 : E[3]? = some (some (.tup [.int a, .int b]))) (e6 : E[6]? = some (some v)) (e9 : E[9]? = some (some (.ref i))) (hE : 11 < E.length) :
    wf ((mSeq (mFor 1000000 (mSeqW (mV 9)) (.name 11) (mIfS (mTB (mB fNe (mCallO LW.m_is_power_paper (mCons (mV 1) (mCons (mV 6) (mCons (mV 2) (mCons (mV 11) mNil))))) (mCallO LW.m__law_is_paper (mCons (mV 1) (mCons (mV 3) (mCons (mV 2) (mCons (mV 11) mNil))))))) (mRet (mC (.bl false))) mSkip))
    (mRet (mC (.bl true)))) E S) (KF.fn (fun w _ => w = .bl true) NoX) := by
  obtain ⟨xs, g, hA, hl⟩ := h
  have v9 : ∀ S, mV 9 E S = .ok (.ref i) S := fun S => by unfold mV; rw [e9]
  refine wf_seq ?_
  refine wf_for ?_
  refine wp_seqT ?_
  refine wp_eq (v9 _) ?_
  refine .inr ⟨_, _, rfl, g, ?_⟩
  refine wf_cell (xs := xs) (fun i E' S' => S' = S ∧ ∃ y, E' = E.set 11 y) ?_ ⟨rfl, E[11]'hE, by simp⟩ (fun i E' S' h => by rw [h.1]; exact g) ?_ ?_
  · omega
  · rintro i w E' S' hw ⟨rfl, y, rfl⟩
    refine ⟨E.set 11 (some w), ?_, ?_⟩
    · show some ((E.set 11 y).set 11 (some w)) = _
      rw [List.set_set]
    refine wf_if ?_
    refine wp_mTB ?_
    refine agree_step c (hA w (List.mem_of_getElem? hw)) ?_ ?_ ?_ ?_ ?_ ?_
    · exact ⟨_, rfl, cnd_f (wf_skip (kl_nx ⟨rfl, _, rfl⟩))⟩
    · rw [List.getElem?_set_ne (by decide)]; exact e1
    · rw [List.getElem?_set_ne (by decide)]; exact e2
    · rw [List.getElem?_set_ne (by decide)]; exact e3
    · rw [List.getElem?_set_ne (by decide)]; exact e6
    · rw [List.getElem?_set_self hE]
  · rintro E' S' ⟨rfl, y, rfl⟩
    repeat array_get_dec
    rfl
end
theorem right_ok {S : Sto} {d : Nat} (hd : Dice.At S d 0) : wp (own LW.m__law_right [.ref d] S) (fun v _ => v = .bl true) NoX := by
  refine wp_ownC rfl ?_
  refine wp_def [some (.ref d), none, none, none, none, none, none, none, none, none, none, none] rfl ?_
  unfold LW.b__law_right
  have hlt := hd.lt
  repeat array_get_dec
  refine Dice.wp_one_of (hd.new _) (by omega) (get_new _ _) (by decide) (by decide) (by omega) fun u S1 hu h1 k1 t1 => ?_
  obtain ⟨p, rfl, hp⟩ : ∃ p : Nat, u = .int p ∧ Pr p := by
    simp only [List.mem_cons, List.not_mem_nil, or_false] at hu
    rcases hu with rfl | rfl | rfl | rfl
    · exact ⟨2, rfl, .inl rfl⟩
    · exact ⟨3, rfl, .inr (.inl rfl)⟩
    · exact ⟨5, rfl, .inr (.inr (.inl rfl))⟩
    · exact ⟨7, rfl, .inr (.inr (.inr rfl))⟩
  clear hu
  repeat array_get_dec
  refine Dice.wp_roll h1 (by decide) (by decide) (by omega) fun r S2 hr h2 k2 t2 => ?_
  have en : (1 : Int) + (r : Int) = ((r + 1 : Nat) : Int) := by omega
  repeat array_get_dec
  rw [en]
  obtain ⟨n, hn⟩ : ∃ n, r + 1 = n := ⟨_, rfl⟩
  rw [hn]
  have n0 : 0 < n := by omega
  have n12 : n ≤ 12 := by omega
  clear hn en hr
  refine drawn_ok hp n12 h2 (by omega) fun a b S3 hR ha hb h3 => ?_
  obtain ⟨v, hv, hnum⟩ : ∃ v, v = (if b = 1 then IV.int a else .tup [.int a, .int b]) ∧ NumOk v a b := by
    refine ⟨_, rfl, ?_, hR.pos, hR.low, ha, hb⟩
    split
    · rename_i h
      exact .inr ⟨rfl, h⟩
    · exact .inl rfl
  have c : Cx p n v a b := ⟨hp, n0, n12, hnum, hR.a0⟩
  repeat array_get_dec
  refine wp_eq (split_ok c _) ?_
  repeat array_get_dec
  refine cnd_vals v S3 (fun z => ?_) (fun z => ?_) ?_
  · rw [hv, if_pos (by have := of_decide_eq_true z; omega)]; rfl
  · rw [hv, if_neg (by have := of_decide_eq_false z; omega)]; rfl
  clear hv hnum
  obtain ⟨told, hT, hflat, htold⟩ := told_ok c
  obtain ⟨s0, r0, P, rfl, hB, hP, hP2, hP3⟩ := told_use c hT
  clear hT
  repeat array_get_dec
  refine wp_eq (htold _) ?_
  have ex := lex_ok hp (n := (n : Int)) (by omega) (M := 10) (by omega) (by decide)
  have hlev := lev_le hp n0 n12
  have hm : mulFit 2 ((expo p (n : Int).natAbs : Nat) : Int) = true := mulFit_of (a := 10) (b := 10) (by decide) (by have := hlev.1; unfold lev EE at this; omega) (by decide)
  have elev : (2 : Int) * ((expo p (n : Int).natAbs : Nat) : Int) + 1 = ((lev p n : Nat) : Int) := by unfold lev EE; omega
  have n0' : 0 < (n : Int) := by omega
  repeat array_get_dec
  refine cnd_andv (.bl P) S3 (fun z => ?_) (fun z => ?_) ?_
  · repeat array_get_dec
    refine wp_eq (ex _) ?_
    repeat array_get_dec
    rw [elev]
    refine wp_eq (lnear hp hlev.2 (by omega) n12 c.uB _) ?_
    refine ⟨?_, rfl⟩
    have hd : divB p n a b = true := z
    rw [hP2, hd, Bool.true_and]
  · have hd : divB p n a b = false := z
    rw [hP2, hd, Bool.false_and]
  repeat array_get_dec
  refine wp_eq (hB.law _) ?_
  repeat array_get_dec
  refine wp_ixT (atI_nat (i := 0) rfl) ?_
  repeat array_get_dec
  refine wp_eqG (hP _) ?_
  repeat array_get_dec
  refine wp_neG (eqIV_bl _ _ _) ?_
  rw [beq_self_eq_true]
  repeat array_get_dec
  refine wp_eq (hB.prog _) ?_
  repeat array_get_dec
  refine wp_eq (ex _) ?_
  repeat array_get_dec
  rw [elev]
  refine Dice.wp_roll h3 (by decide) (by decide) (by omega) fun r8 S4 b8 h4 k4 t4 => ?_
  have e8 : (1 : Int) + (r8 : Int) = ((r8 + 1 : Nat) : Int) := by omega
  repeat array_get_dec
  rw [e8]
  have l7 := hlev.1
  have l0 : 1 ≤ lev p n := by unfold lev; omega
  clear hP2 e8 k4 t4 hB
  repeat array_get_dec
  refine wp_addA ((Keep.new _ _) _ _ (get_new _ _)) (get_new _ _) (by show 4 + 7 < 1000000; decide) fun S5 i5 k5 g5 _ => ?_
  have h5 : Dice.At S5 d 34 := At_mono (((h4.new _).new _).keep k5) (by omega)
  obtain ⟨xs5, gx5, A5, l5⟩ : ∃ xs, S5.get i5 = some (.lst xs) ∧ (∀ w ∈ xs, Agree p n v a b S5 w) ∧ xs.length ≤ 11 := by
    refine ⟨_, g5, ?_, by simp⟩
    intro w hw
    simp only [List.mem_append, List.mem_cons, List.not_mem_nil, or_false] at hw
    rcases hw with (rfl | rfl | rfl | rfl) | (rfl | rfl | rfl | rfl | rfl | rfl | rfl)
    · exact .inl ⟨_, j_value c⟩
    · exact .inl ⟨_, j_rests c l0 (by omega)⟩
    · exact .inl ⟨_, j_rests c (k := 66) (by decide) (by decide)⟩
    · exact .inl ⟨_, j_rests c (k := r8 + 1) (by omega) (by omega)⟩
    · exact .inl ⟨_, k_s0 c⟩
    · exact .inl ⟨_, k_st c⟩
    · exact .inl ⟨_, k_s67 c⟩
    · exact .inl ⟨_, k_r0 c⟩
    · exact .inl ⟨_, k_rn c⟩
    · exact .inl ⟨_, k_r c⟩
    · exact .inl ⟨_, k_nil c⟩
  clear g5 k5 h4
  repeat array_get_dec
  refine wp_addA (((Keep.new _ _).trans (Keep.new _ _)) _ _ gx5) (get_new _ _) (by show _ + 8 < 1000000; omega) fun S6 i6 k6 g6 t6 => ?_
  have K56 : Keep S5 S6 := ((Keep.new _ _).trans (Keep.new _ _)).trans k6
  have gm2 := k6 _ _ ((Keep.new _ _) _ _ (get_new _ _))
  obtain ⟨xs6, gx6, A6, l6⟩ : ∃ xs, S6.get i6 = some (.lst xs) ∧ (∀ w ∈ xs, Agree p n v a b S6 w) ∧ xs.length ≤ 19 := by
    refine ⟨_, g6, ?_, by simp; omega⟩
    intro w hw
    rcases List.mem_append.mp hw with hw | hw
    · exact (A5 w hw).keep K56
    simp only [List.mem_cons, List.not_mem_nil, or_false] at hw
    rcases hw with rfl | rfl | rfl | rfl | rfl | rfl | rfl | rfl
    · exact .inl ⟨_, k_v1 c⟩
    · exact .inl ⟨_, k_none c⟩
    · exact .inl ⟨_, k_five c⟩
    · exact .inl ⟨_, k_str c⟩
    · exact .inr ⟨_, _, rfl, gm2⟩
    · exact .inl ⟨_, k_r24 c⟩
    · exact .inl (j_unit c)
    · exact .inl ⟨_, k_e3 c⟩
  have h6 := h5.keep K56
  have hi6 : i6 ≠ d := by
    have := h5.lt
    have e : ((S5.new (.lst [.str "value"])).new (.lst [])).top = S5.top + 2 := rfl
    rcases Nat.lt_or_ge d i6 with w | w
    · omega
    · have e2 : S5.top ≤ i6 := Nat.le_trans (show S5.top ≤ _ from by first | exact Nat.le_add_right _ 2 | exact Nat.le_refl _) t6
      omega
  clear g6 gm2 h5 K56 gx5 A5 l5 t6
  repeat array_get_dec
  refine ⟨ty_ref gx6, ?_⟩
  repeat array_get_dec
  refine Dice.wp_roll h6 (by decide) (by decide) (by omega) fun r9 S7 b9 h7 k7 t7 => ?_
  have L7 : Lot p n v a b i6 19 S7 := ⟨xs6, k7 _ _ hi6 gx6, fun w hw => (A6 w hw).keepBut k7 h7, l6⟩
  clear gx6 A6 l6 h6 k7 t7 h7
  repeat array_get_dec
  refine L7.app (by decide) (j_int c (Nat.lt_of_lt_of_le (show ((r9 : Int) - 25).natAbs < 2 ^ 10 by omega) (Nat.pow_le_pow_right (by decide) (by decide)))) fun S8 L8 => ?_
  clear L7
  refine kt_nx ?_
  refine wf_seq ?_
  refine wf_mid (fun E S' => ∃ x10, E = [some (.ref d), some (.int p), some (.int n), some (.tup [.int a, .int b]), some (.int ((EE p a : Int) - (EE p (b : Int) : Int))), some (.tup [.int (UU p a), .int (ub p b : Nat)]), some v, some (.tup (.str s0 :: r0)), some (.bl P), some (.ref i6), x10, none] ∧ Lot p n v a b i6 25 S') ?_ ?_
  · repeat array_get_dec
    refine wp_ixT (atI_nat (i := 0) rfl) ?_
    repeat array_get_dec
    refine wp_eqG (hP _) ?_
    repeat array_get_dec
    have L8' : Lot p n v a b i6 25 S8 := by
      obtain ⟨xs, g, h, l⟩ := L8
      exact ⟨xs, g, h, by omega⟩
    cases P with
    | false =>
      repeat array_get_dec
      exact L8'
    | true =>
      obtain ⟨w, rfl, hw⟩ := hP3 rfl
      repeat array_get_dec
      rcases hw with ⟨x, rfl, hx⟩ | ⟨xs, rfl⟩
      · have hm2 : mulFit (-2) x = true := mulFit_of (a := 10) (b := 300) (by decide) hx (by decide)
        have q3 : ((p ^ 3 : Nat) : Int).natAbs < 2 ^ 900 := by
          rw [Int.natAbs_natCast]
          exact Nat.lt_of_le_of_lt (Nat.pow_le_pow_left (show p ≤ 8 by have := hp.two; omega) 3) (Nat.lt_of_lt_of_le (show 8 ^ 3 < 2 ^ 10 by decide) (Nat.pow_le_pow_right (by decide) (by decide)))
        have q20 : ((p ^ 20 : Nat) : Int).natAbs < 2 ^ 900 := by
          rw [Int.natAbs_natCast]
          exact Nat.lt_of_le_of_lt (Nat.pow_le_pow_left (show p ≤ 8 by have := hp.two; omega) 20) (Nat.lt_of_lt_of_le (show 8 ^ 20 < 2 ^ 70 by decide) (Nat.pow_le_pow_right (by decide) (by decide)))
        have qm : (-2 * x).natAbs < 2 ^ 900 := up_lt (abs_mul_lt (m := 2) (by decide) hx) (by decide)
        have hx9 : x.natAbs < 2 ^ 900 := up_lt hx (by decide)
        have q1 : (1 : Int).natAbs < 2 ^ 900 := Nat.one_lt_two_pow (by decide)
        have qp : ((p : Int)).natAbs < 2 ^ 900 := up_lt (show ((p : Int)).natAbs < 2 ^ 3 by have := hp.two; omega) (by decide)
        repeat array_get_dec
        refine wp_eq (lpwx (n := 3) hp (by decide) _) ?_
        repeat array_get_dec
        refine wp_eq (lpwx (n := 20) hp (by decide) _) ?_
        repeat array_get_dec
        refine .inl ⟨_, rfl, ?_⟩
        have hall : ∀ m ∈ [IV.int 1, IV.int p, IV.int ((p ^ 3 : Nat) : Int), IV.int ((p ^ 20 : Nat) : Int), IV.int (-2 * x)], ∃ m' : Int, m = .int m' ∧ m'.natAbs < 2 ^ 900 := by
          intro m hm
          simp only [List.mem_cons, List.not_mem_nil, or_false] at hm
          rcases hm with rfl | rfl | rfl | rfl | rfl
          · exact ⟨_, rfl, q1⟩
          · exact ⟨_, rfl, qp⟩
          · exact ⟨_, rfl, q3⟩
          · exact ⟨_, rfl, q20⟩
          · exact ⟨_, rfl, qm⟩
        have hlen : [IV.int 1, IV.int p, IV.int ((p ^ 3 : Nat) : Int), IV.int ((p ^ 20 : Nat) : Int), IV.int (-2 * x)].length = 5 := rfl
        generalize [IV.int 1, IV.int p, IV.int ((p ^ 3 : Nat) : Int), IV.int ((p ^ 20 : Nat) : Int), IV.int (-2 * x)] = ms at *
        refine wf_items (fun i E S' => ∃ x10, E = [some (.ref d), some (.int p), some (.int n), some (.tup [.int a, .int b]), some (.int ((EE p a : Int) - (EE p (b : Int) : Int))), some (.tup [.int (UU p a), .int (ub p b : Nat)]), some v, some (.tup [.str s0, .int x]), some (.bl true), some (.ref i6), x10, none] ∧ Lot p n v a b i6 (20 + i) S') ?_ ⟨_, rfl, L8⟩ ?_ ?_
        · omega
        · rintro i m E S' hm ⟨x10, rfl, L⟩
          have hi := (List.getElem?_eq_some_iff.mp hm).1
          obtain ⟨m', rfl, hm'⟩ := hall m (List.mem_of_getElem? hm)
          obtain ⟨ys, g, hA, hl⟩ := id L
          repeat array_get_dec
          refine ⟨ty_ref g, ?_⟩
          repeat array_get_dec
          refine L.app (by omega) (j_int c (up_lt (show (x + m').natAbs < 2 ^ 901 by rw [show (901 : Nat) = 900 + 1 from rfl, Nat.pow_succ]; omega) (by decide))) fun S9 L9 => ?_
          repeat array_get_dec
          exact L9
        · rintro E S' ⟨x10, rfl, L⟩
          rw [hlen] at L
          repeat array_get_dec
          exact L
      · repeat array_get_dec
        exact L8'
  · rintro E S' ⟨x10, rfl, L⟩
    refine kt_nx ?_
    exact final_ok c L (by decide) rfl rfl rfl rfl rfl (show 11 < 12 by decide)
theorem law_true (ns : List Int) (hl : ns.length ≤ 63) : ∃ S, LW.m_law [.frz (ns.map FX.IV.int)] ⟨0, []⟩ = .ok (.bl true) S := by
  refine wp_exv ?_
  refine wp_def [some (.frz (ns.map FX.IV.int)), none] rfl ?_
  unfold LW.b_law
  repeat array_get_dec
  rw [List.length_map]
  obtain ⟨m, hm, hm4⟩ : ∃ m : Nat, (if (if (ns.length : Int) < 4 then (ns.length : Int) else 4) > 1 then (if (ns.length : Int) < 4 then (ns.length : Int) else 4) else 1) = (m : Int) ∧ m ≤ 4 := by
    refine ⟨(if (if (ns.length : Int) < 4 then (ns.length : Int) else 4) > 1 then (if (ns.length : Int) < 4 then (ns.length : Int) else 4) else 1).toNat, ?_, ?_⟩
    · split <;> split at * <;> omega
    · split <;> split at * <;> omega
  rw [hm]
  refine wp_range1 (in62_of (by omega) (by omega)) ?_
  refine wf_items (fun i E S => ∃ y, E = [some (.frz (ns.map FX.IV.int)), y]) ?_ ⟨_, rfl⟩ ?_ ?_
  · rw [len_rangeI]; omega
  · rintro i x E S hx ⟨y, rfl⟩
    obtain ⟨j, rfl, hj⟩ := mem_rangeI _ _ _ (List.mem_of_getElem? hx)
    rw [Int.zero_add]
    repeat array_get_dec
    obtain ⟨S1, e1, a1, _⟩ := Dice.own_dice ns j S hl (by omega)
    refine wp_eq e1 ?_
    repeat array_get_dec
    refine wp_imp (right_ok a1) ?_
    rintro v S2 rfl
    repeat array_get_dec
    exact ⟨_, rfl⟩
  · rintro E S ⟨y, rfl⟩
    repeat array_get_dec
    rfl
end P02

theorem PySem.Challenge.cw_wildsteps_k02_whole_powers_or_papers_holds : PySem.Challenge.rw_wildsteps_k02_whole_powers_or_papers.Holds := by
  exact LW.holds_of P02.law_true
