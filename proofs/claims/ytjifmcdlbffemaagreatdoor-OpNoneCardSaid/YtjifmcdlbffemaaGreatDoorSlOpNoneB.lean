/-
  A part of the proof of the statement about OpNone: laws of what a heap owns, the functions' contracts, in the order in which they call each other: Base, Code, Ops, Mem, Draw, Call.
-/
import Derived.RangeFuncLeaves
import Derived.RangeFuncRecord
import Derived.Deep.Quiet
import Derived.OrdersIn
import Derived.WalkKit
import Derived.StillTail
import Derived.Test.YtjifmcdlbffemaaGreatDoorSlOpNoneA
set_option linter.unusedVariables false
set_option linter.unusedSimpArgs false

/-
  Separation logic over the model's heap, first part: parts of heaps, assertions, what a world satisfies.
-/
namespace Go.Sl
open Go

abbrev Hp := Nat → Option Obj
abbrev HProp := Hp → Prop

def hnil : Hp := fun _ => none
def hdisj (h k : Hp) : Prop := ∀ b, h b = none ∨ k b = none
def hjoin (h k : Hp) : Hp := fun b => match h b with
  | some o => some o
  | none => k b

theorem hdisj.symm {h k : Hp} (d : hdisj h k) : hdisj k h := fun b => (d b).symm
theorem hdisj_nil (h : Hp) : hdisj hnil h := fun _ => .inl rfl
theorem hjoin_comm {h k : Hp} (d : hdisj h k) : hjoin h k = hjoin k h := by
  funext b
  unfold hjoin
  rcases d b with e | e <;> rw [e]
  · cases k b <;> rfl
  · cases h b <;> rfl
theorem hjoin_assoc (h k l : Hp) : hjoin (hjoin h k) l = hjoin h (hjoin k l) := by
  funext b
  unfold hjoin
  cases h b <;> rfl
theorem hjoin_none {h k : Hp} {b : Nat} : hjoin h k b = none ↔ h b = none ∧ k b = none := by
  unfold hjoin
  cases h b <;> simp
theorem hdisj_join_left {h k l : Hp} : hdisj (hjoin h k) l ↔ hdisj h l ∧ hdisj k l := by
  constructor
  · intro d
    refine ⟨fun b => ?_, fun b => ?_⟩
    · rcases d b with e | e
      · exact .inl (hjoin_none.1 e).1
      · exact .inr e
    · rcases d b with e | e
      · exact .inl (hjoin_none.1 e).2
      · exact .inr e
  · rintro ⟨d1, d2⟩ b
    rcases d1 b with e1 | e1
    · rcases d2 b with e2 | e2
      · exact .inl (hjoin_none.2 ⟨e1, e2⟩)
      · exact .inr e2
    · exact .inr e1
theorem hdisj_join_right {h k l : Hp} : hdisj h (hjoin k l) ↔ hdisj h k ∧ hdisj h l :=
  ⟨fun d => let ⟨a, b⟩ := hdisj_join_left.1 d.symm; ⟨a.symm, b.symm⟩, fun ⟨a, b⟩ => (hdisj_join_left.2 ⟨a.symm, b.symm⟩).symm⟩
theorem hjoin_left {h k : Hp} {b : Nat} {o : Obj} (e : h b = some o) : hjoin h k b = some o := by unfold hjoin; rw [e]
theorem hjoin_right {h k : Hp} {b : Nat} {o : Obj} (d : hdisj h k) (e : k b = some o) : hjoin h k b = some o := by
  unfold hjoin
  rcases d b with e' | e'
  · rw [e']; exact e
  · rw [e] at e'; cases e'
theorem hjoin_some {h k : Hp} {b : Nat} {o : Obj} (e : hjoin h k b = some o) : h b = some o ∨ k b = some o := by
  unfold hjoin at e
  cases hb : h b with
  | some x => rw [hb] at e; exact .inl e
  | none => rw [hb] at e; exact .inr e

def star (A B : HProp) : HProp := fun h => ∃ h1 h2, hdisj h1 h2 ∧ h = hjoin h1 h2 ∧ A h1 ∧ B h2
def emp : HProp := fun h => h = hnil
def lift (p : Prop) : HProp := fun h => p ∧ h = hnil
def ex {α : Sort _} (A : α → HProp) : HProp := fun h => ∃ x, A x h
def pt (b : Nat) (o : Obj) : HProp := fun h => h = fun x => if x = b then some o else none
def own (S : Hp) : HProp := fun h => h = S
/-- One assertion gives another. -/
def Ent (A B : HProp) : Prop := ∀ h, A h → B h
/-- All of a list, side by side. -/
def sep : List HProp → HProp
  | [] => emp
  | A :: L => star A (sep L)

theorem star_comm (A B : HProp) : star A B = star B A := by
  funext h
  apply propext
  constructor
  · rintro ⟨x, y, d, e, ha, hb⟩; exact ⟨y, x, d.symm, by rw [e, hjoin_comm d], hb, ha⟩
  · rintro ⟨x, y, d, e, ha, hb⟩; exact ⟨y, x, d.symm, by rw [e, hjoin_comm d], hb, ha⟩
theorem star_assoc (A B C : HProp) : star (star A B) C = star A (star B C) := by
  funext h
  apply propext
  constructor
  · rintro ⟨x, z, d, e, ⟨p, q, d', e', ha, hb⟩, hc⟩
    subst e'
    obtain ⟨d1, d2⟩ := hdisj_join_left.1 d
    exact ⟨p, hjoin q z, hdisj_join_right.2 ⟨d', d1⟩, by rw [e, hjoin_assoc], ha, q, z, d2, rfl, hb, hc⟩
  · rintro ⟨x, z, d, e, ha, q, r, d', e', hb, hc⟩
    subst e'
    obtain ⟨d1, d2⟩ := hdisj_join_right.1 d
    exact ⟨hjoin x q, r, hdisj_join_left.2 ⟨d2, d'⟩, by rw [e, hjoin_assoc], ⟨x, q, d1, rfl, ha, hb⟩, hc⟩
theorem emp_star (A : HProp) : star emp A = A := by
  funext h
  apply propext
  constructor
  · rintro ⟨x, y, d, e, hx, hy⟩
    have hx' : x = hnil := hx
    subst hx'; rw [e]; exact hy
  · intro ha; exact ⟨hnil, h, hdisj_nil h, rfl, rfl, ha⟩
theorem star_emp (A : HProp) : star A emp = A := by rw [star_comm, emp_star]
theorem star_left_comm (A B C : HProp) : star A (star B C) = star B (star A C) := by
  rw [← star_assoc, star_comm A B, star_assoc]
theorem lift_star (p : Prop) (A : HProp) (h : Hp) : star (lift p) A h ↔ p ∧ A h := by
  constructor
  · rintro ⟨x, y, d, e, ⟨hp, hx⟩, hy⟩
    subst hx; rw [e]; exact ⟨hp, hy⟩
  · rintro ⟨hp, ha⟩; exact ⟨hnil, h, hdisj_nil h, rfl, ⟨hp, rfl⟩, ha⟩
theorem ex_star {α : Sort _} (A : α → HProp) (B : HProp) : star (ex A) B = ex fun x => star (A x) B := by
  funext h
  apply propext
  constructor
  · rintro ⟨p, q, d, e, ⟨x, hx⟩, hb⟩; exact ⟨x, p, q, d, e, hx, hb⟩
  · rintro ⟨x, p, q, d, e, hx, hb⟩; exact ⟨p, q, d, e, ⟨x, hx⟩, hb⟩

theorem sep_append (L M : List HProp) : sep (L ++ M) = star (sep L) (sep M) := by
  induction L with
  | nil => exact (emp_star _).symm
  | cons A L ih => show star A (sep (L ++ M)) = star (star A (sep L)) (sep M); rw [ih, star_assoc]
theorem sep_one (A : HProp) : sep [A] = A := star_emp A

theorem Ent.refl (A : HProp) : Ent A A := fun _ h => h
theorem Ent.trans {A B C : HProp} (h : Ent A B) (k : Ent B C) : Ent A C := fun x hx => k x (h x hx)
theorem Ent.star {A B C D : HProp} (h : Ent A B) (k : Ent C D) : Ent (star A C) (star B D) :=
  fun _ ⟨p, q, d, e, ha, hc⟩ => ⟨p, q, d, e, h p ha, k q hc⟩
theorem Ent.of_eq {A B : HProp} (h : A = B) : Ent A B := fun x hx => h ▸ hx
/-! ### What a world satisfies -/
def Has (w : World) (h : Hp) : Prop := ∀ b o, h b = some o → w.heap[b]? = some o
def Sat (w : World) (A : HProp) : Prop := ∃ h, Has w h ∧ A h

theorem Has.of_heap {w w' : World} {h : Hp} (e : w'.heap = w.heap) (hh : Has w h) : Has w' h := fun b o hb => by rw [e]; exact hh b o hb
theorem Sat.of_heap {w w' : World} {A : HProp} (e : w'.heap = w.heap) (h : Sat w A) : Sat w' A := let ⟨x, hx, ha⟩ := h; ⟨x, hx.of_heap e, ha⟩
theorem Sat.mono {w : World} {A B : HProp} (h : Sat w A) (e : Ent A B) : Sat w B := let ⟨x, hx, ha⟩ := h; ⟨x, hx, e x ha⟩
theorem Sat.lift {w : World} {p : Prop} {A : HProp} : Sat w (star (Sl.lift p) A) ↔ p ∧ Sat w A := by
  constructor
  · rintro ⟨x, hx, ha⟩; rw [lift_star] at ha; exact ⟨ha.1, x, hx, ha.2⟩
  · rintro ⟨hp, x, hx, ha⟩; exact ⟨x, hx, by rw [lift_star]; exact ⟨hp, ha⟩⟩
theorem Sat.ex {α : Sort _} {w : World} {A : α → HProp} {B : HProp} : Sat w (star (Sl.ex A) B) ↔ ∃ x, Sat w (star (A x) B) := by
  rw [ex_star]
  constructor
  · rintro ⟨h, hh, x, hx⟩; exact ⟨x, h, hh, hx⟩
  · rintro ⟨x, h, hh, hx⟩; exact ⟨h, hh, x, hx⟩
theorem Sat.pt {w : World} {b : Nat} {o : Obj} {A : HProp} (h : Sat w (star (Sl.pt b o) A)) : w.heap[b]? = some o := by
  obtain ⟨_, hx, p, q, d, e, hp, _⟩ := h
  have hp' : p = fun x => if x = b then some o else none := hp
  refine hx b o ?_
  rw [e]
  exact hjoin_left (by rw [hp']; simp)
/-- A block that is owned is set. -/
theorem Sat.set {w w' : World} {b : Nat} {o o' : Obj} {A : HProp} (h : Sat w (star (Sl.pt b o) A)) (hb : w'.heap[b]? = some o')
    (hk : ∀ k, k ≠ b → w'.heap[k]? = w.heap[k]?) : Sat w' (star (Sl.pt b o') A) := by
  obtain ⟨x, hx, p, q, d, e, hp, hq⟩ := h
  have hp' : p = fun x => if x = b then some o else none := hp
  subst hp'
  have hqb : q b = none := by
    rcases d b with h1 | h1
    · simp at h1
    · exact h1
  refine ⟨hjoin (fun x => if x = b then some o' else none) q, ?_, _, q, ?_, rfl, rfl, hq⟩
  · intro k u hu
    rcases hjoin_some hu with h1 | h1
    · by_cases hkb : k = b
      · subst hkb; simp at h1; subst h1; exact hb
      · simp [hkb] at h1
    · have hkb : k ≠ b := fun h2 => by subst h2; rw [hqb] at h1; cases h1
      rw [hk k hkb]
      exact hx k u (by rw [e]; exact hjoin_right d h1)
  · intro k
    by_cases hkb : k = b
    · subst hkb; exact .inr hqb
    · exact .inl (by simp [hkb])
/-- A block that is new is owned. -/
theorem Sat.new {w w' : World} {o : Obj} {A : HProp} (h : Sat w A) (hk : ∀ k, k < w.heap.size → w'.heap[k]? = w.heap[k]?)
    (hb : w'.heap[w.heap.size]? = some o) : Sat w' (star (Sl.pt w.heap.size o) A) := by
  obtain ⟨x, hx, ha⟩ := h
  have hlt : ∀ k u, x k = some u → k < w.heap.size := fun k u hu => by
    have := hx k u hu
    exact (Array.getElem?_eq_some_iff.1 this).1
  refine ⟨hjoin (fun y => if y = w.heap.size then some o else none) x, ?_, _, x, ?_, rfl, rfl, ha⟩
  · intro k u hu
    rcases hjoin_some hu with h1 | h1
    · by_cases hkb : k = w.heap.size
      · subst hkb; simp at h1; subst h1; exact hb
      · simp [hkb] at h1
    · rw [hk k (hlt k u h1)]; exact hx k u h1
  · intro k
    by_cases hkb : k = w.heap.size
    · subst hkb
      right
      cases hc : x w.heap.size with
      | none => rfl
      | some u => exact absurd (hlt _ _ hc) (Nat.lt_irrefl _)
    · exact .inl (by simp [hkb])
theorem Sat.own {w : World} {S : Hp} {A : HProp} (h : Sat w (star (Sl.own S) A)) {b : Nat} {o : Obj} (e : S b = some o) : w.heap[b]? = some o := by
  obtain ⟨x, hx, p, q, d, e', hp, _⟩ := h
  have hp' : p = S := hp
  subst hp'
  exact hx b o (by rw [e']; exact hjoin_left e)

structure Kept (w w' : World) : Prop where
  os : w'.os = w.os
  output : w'.output = w.output
  size : w.heap.size ≤ w'.heap.size
theorem Kept.refl (w : World) : Kept w w := ⟨rfl, rfl, Nat.le_refl _⟩
theorem Kept.trans {a b c : World} (h : Kept a b) (k : Kept b c) : Kept a c := ⟨k.os.trans h.os, k.output.trans h.output, Nat.le_trans h.size k.size⟩

/-! ### The contract of a function -/

/-- Called with 'args' in whatever world that satisfies A (beside what is only read, S, and whatever else), the function returns a value v, and Q v is satisfied; all else is as it was. -/
def FN (S : Hp) (P : Program) (f : FuncId) (args : Array Value) (A : HProp) (Q : Value → HProp) : Prop :=
  ∀ (R : HProp) (w : World), Sat w (star A (star (own S) R)) →
    Calls P f args w (fun e w' => ∃ v, e = .returned v ∧ Sat w' (star (Q v) (star (own S) R)) ∧ Kept w w')

theorem FN.conseq {S : Hp} {P : Program} {f : FuncId} {args : Array Value} {A A' : HProp} {Q Q' : Value → HProp} (h : FN S P f args A Q)
    (ha : Ent A' A) (hq : ∀ v, Ent (Q v) (Q' v)) : FN S P f args A' Q' := fun R w hs =>
  (h R w (hs.mono (ha.star (.refl _)))).mono fun _ _ ⟨v, e, s, k⟩ => ⟨v, e, s.mono ((hq v).star (.refl _)), k⟩
theorem FN.frame {S : Hp} {P : Program} {f : FuncId} {args : Array Value} {A : HProp} {Q : Value → HProp} (h : FN S P f args A Q) (B : HProp) :
    FN S P f args (star A B) (fun v => star (Q v) B) := fun R w hs => by
  have e : ∀ X : HProp, star (star X B) (star (own S) R) = star X (star (own S) (star B R)) := fun X => by
    rw [star_assoc, star_left_comm B (own S) R]
  refine (h (star B R) w (by rw [← e]; exact hs)).mono fun e' w' ⟨v, e1, s, k⟩ => ⟨v, e1, ?_, k⟩
  rw [e]; exact s
theorem FN.lift {S : Hp} {P : Program} {f : FuncId} {args : Array Value} {p : Prop} {A : HProp} {Q : Value → HProp} (h : p → FN S P f args A Q) :
    FN S P f args (star (Sl.lift p) A) Q := fun R w hs => by
  rw [star_assoc] at hs
  obtain ⟨hp, hs⟩ := Sat.lift.1 hs
  exact h hp R w hs
theorem FN.ex {α : Sort _} {S : Hp} {P : Program} {f : FuncId} {args : Array Value} {A : α → HProp} {Q : Value → HProp} (h : ∀ x, FN S P f args (A x) Q) :
    FN S P f args (Sl.ex A) Q := fun R w hs => by
  obtain ⟨x, hx⟩ := Sat.ex.1 hs
  exact h x R w hx
theorem own_join {S T : Hp} (d : hdisj S T) : own (hjoin S T) = star (own S) (own T) := by
  funext h
  apply propext
  constructor
  · intro e; exact ⟨S, T, d, e, rfl, rfl⟩
  · rintro ⟨x, y, _, e, hx, hy⟩
    have hx' : x = S := hx
    have hy' : y = T := hy
    subst hx' hy'; exact e
theorem any_own (A : HProp) : A = Sl.ex fun T : Hp => star (Sl.lift (A T)) (own T) := by
  funext h
  apply propext
  constructor
  · intro ha; exact ⟨h, (lift_star _ _ _).2 ⟨ha, rfl⟩⟩
  · rintro ⟨T, hT⟩
    replace hT := (lift_star _ _ _).1 hT
    have e : h = T := hT.2
    rw [e]; exact hT.1
theorem disj_of_sat {w : World} {S T : Hp} {R : HProp} (h : Sat w (star (own S) (star (own T) R))) : hdisj S T := by
  obtain ⟨x, _, p, q, d, _, hp, u, v, _, e', hu, _⟩ := h
  have hp' : p = S := hp
  have hu' : u = T := hu
  subst hp' hu' e'
  exact (hdisj_join_right.1 d).1
/-- What is owned may be lent to be read. -/
theorem FN.lend {S : Hp} {P : Program} {f : FuncId} {args : Array Value} {A B : HProp} {Q : Value → HProp}
    (h : ∀ T, A T → hdisj S T → FN (hjoin S T) P f args B Q) : FN S P f args (star A B) (fun v => star A (Q v)) := fun R w hs => by
  rw [any_own A, ex_star] at hs
  obtain ⟨T, hT⟩ := Sat.ex.1 hs
  rw [star_assoc, star_assoc] at hT
  obtain ⟨ha, hT⟩ := Sat.lift.1 hT
  have e : ∀ X : HProp, star (own T) (star X (star (own S) R)) = star (own S) (star (own T) (star X R)) := fun X => by
    rw [star_left_comm X (own S), star_left_comm (own T) (own S)]
  rw [e] at hT
  have d := disj_of_sat hT
  have e2 : ∀ X : HProp, star (own S) (star (own T) (star X R)) = star X (star (own (hjoin S T)) R) := fun X => by
    rw [own_join d, star_assoc, star_left_comm (own T) X, star_left_comm (own S) X]
  rw [e2] at hT
  refine (h T ha d R w hT).mono fun e' w' ⟨v, e1, hs', k⟩ => ⟨v, e1, ?_, k⟩
  rw [← e2, ← e, ← star_assoc] at hs'
  exact hs'.mono (Ent.star (Ent.star (fun x hx => by have hx' : x = T := hx; rw [hx']; exact ha) (.refl _)) (.refl _))
/-- What may be read of less may be read of more. -/
theorem FN.more {S T : Hp} {P : Program} {f : FuncId} {args : Array Value} {A : HProp} {Q : Value → HProp} (d : hdisj S T) (h : FN S P f args A Q) :
    FN (hjoin S T) P f args A Q := fun R w hs => by
  have e : ∀ X : HProp, star X (star (own (hjoin S T)) R) = star X (star (own S) (star (own T) R)) := fun X => by rw [own_join d, star_assoc]
  rw [e] at hs
  exact (h _ w hs).mono fun e' w' ⟨v, e1, hs', k⟩ => ⟨v, e1, by rw [e]; exact hs', k⟩
end Go.Sl

/-
  Separation logic over the model's heap, second part: what is known of an activation's temporaries; the rules of control; calls.
-/
namespace Go.Sl
open Go

/-! ### What is known of the temporaries -/
structure Env where
  size : Nat
  defers : List Deferred
  vals : List (Nat × Value)

def look (t : Nat) : List (Nat × Value) → Option Value
  | [] => none
  | (s, v) :: r => match Nat.beq s t with
    | true => some v
    | false => look t r

def Env.holds (E : Env) (a : Act) : Prop :=
  a.tmps.size = E.size ∧ a.defers = E.defers ∧ ∀ t v, look t E.vals = some v → a.tmps[t]? = some v

def Env.get (E : Env) : Operand → Option Value
  | .tmp t => look t E.vals
  | .const v => some v
  | .global g => some (.pointer (some ⟨g, 0, none⟩))
  | .func f => some (.func (.func f) #[] #[])

theorem Env.get_eval {E : Env} {a : Act} (h : E.holds a) {x : Operand} {v : Value} (e : E.get x = some v) : a.eval x = v := by
  cases x with
  | tmp t =>
    have := h.2.2 t v e
    show a.tmps.getD t undef = v
    rw [Array.getD_eq_getD_getElem?, this]; rfl
  | const u => exact Option.some.inj e
  | global g => exact Option.some.inj e
  | func f => exact Option.some.inj e

def Env.put (E : Env) (dst : Option Tmp) (v : Value) : Env :=
  match dst with
  | none => E
  | some d => { E with vals := (d, v) :: E.vals }

def Env.okDst (E : Env) (dst : Option Tmp) : Bool :=
  match dst with
  | none => true
  | some d => Nat.blt d E.size

theorem look_cons (s t : Nat) (v : Value) (r : List (Nat × Value)) : look t ((s, v) :: r) = if s = t then some v else look t r := by
  show (match Nat.beq s t with | true => some v | false => look t r) = _
  by_cases h : s = t
  · subst h; rw [show Nat.beq s s = true from Nat.beq_refl s]; simp
  · have : Nat.beq s t = false := by
      cases hb : Nat.beq s t with
      | false => rfl
      | true => exact absurd (Nat.eq_of_beq_eq_true hb) h
    rw [this]; simp [h]

theorem Env.holds_put {E : Env} {a : Act} (h : E.holds a) {dst : Option Tmp} (hd : E.okDst dst = true) (v : Value) : (E.put dst v).holds (a.put dst v) := by
  cases dst with
  | none => exact h
  | some d =>
    have hlt : d < a.tmps.size := by rw [h.1]; simpa [Env.okDst, Nat.blt_eq] using hd
    refine ⟨by simp [Act.put, Env.put, h.1], h.2.1, fun t u hu => ?_⟩
    simp only [Env.put, look_cons] at hu
    simp only [Act.put]
    by_cases hdt : d = t
    · subst hdt
      rw [if_pos rfl] at hu
      cases hu
      simp [hlt]
    · rw [if_neg hdt] at hu
      rw [Array.getElem?_setIfInBounds_ne hdt]
      exact h.2.2 t u hu

/-- Less is known. -/
def Env.le (E E' : Env) : Prop := E.size = E'.size ∧ E.defers = E'.defers ∧ ∀ t v, look t E'.vals = some v → look t E.vals = some v
theorem Env.holds_le {E E' : Env} {a : Act} (h : E.holds a) (l : E.le E') : E'.holds a :=
  ⟨h.1.trans l.1, h.2.1.trans l.2.1, fun t v e => h.2.2 t v (l.2.2 t v e)⟩
/-- Each of a list's entries is known. -/
def knows (E : Env) : List (Nat × Value) → Prop
  | [] => True
  | (t, v) :: r => look t E.vals = some v ∧ knows E r
theorem Env.le_of_knows {E : Env} {l : List (Nat × Value)} (h : knows E l) : E.le ⟨E.size, E.defers, l⟩ := by
  refine ⟨rfl, rfl, ?_⟩
  induction l with
  | nil => intro t v e; cases e
  | cons x r ih =>
    obtain ⟨s, u⟩ := x
    intro t v e
    simp only [look_cons] at e
    by_cases hs : s = t
    · subst hs; rw [if_pos rfl] at e; cases e; exact h.1
    · rw [if_neg hs] at e; exact ih h.2 t v e

/-! ### The frame of a proof -/
structure Ctx where
  P : Program
  S : Hp
  R : HProp
  w0 : World
  ro : Option Nat := none

def Ctx.F (Γ : Ctx) : Fence := match Γ.ro with
  | none => Fence.wide
  | some l => Fence.wide.inRound l
theorem Ctx.fn (Γ : Ctx) (f : FuncId) : Γ.F.fn f := by unfold Ctx.F; split <;> trivial
theorem Ctx.depth (Γ : Ctx) : Γ.F.depth.isSome = true → 1 ≤ 0 := by unfold Ctx.F; split <;> (intro h; simp [Fence.wide, Fence.inRound] at h)
theorem Ctx.callsIn (Γ : Ctx) {f : FuncId} {args : Array Value} {w : World} {R : Ending → World → Prop} (h : Calls Γ.P f args w R) (n : Nat) : CallsIn Γ.F n Γ.P f args w R := by
  have h' : CallsIn Fence.wide n Γ.P f args w R := callsIn_wide.2 h
  unfold Ctx.F
  split
  · exact h'
  · exact h'

def Ctx.ok (Γ : Ctx) (w : World) (A : HProp) : Prop := Sat w (star A (star (own Γ.S) Γ.R)) ∧ Kept Γ.w0 w
theorem Ctx.ok_mono {Γ : Ctx} {w : World} {A B : HProp} (h : Γ.ok w A) (e : Ent A B) : Γ.ok w B := ⟨h.1.mono (e.star (.refl _)), h.2⟩
theorem Ctx.ok_heap {Γ : Ctx} {w w' : World} {A : HProp} (h : Γ.ok w A) (e : w'.heap = w.heap) (eo : w'.os = w.os) (eu : w'.output = w.output) : Γ.ok w' A :=
  ⟨h.1.of_heap e, ⟨eo.trans h.2.os, eu.trans h.2.output, by rw [e]; exact h.2.size⟩⟩

/-- From whatever activation and world are as said, on with K. -/
def TN (Γ : Ctx) (K : Act → World → Prop) (E : Env) (A : HProp) : Prop := ∀ a w, E.holds a → Γ.ok w A → K a w
abbrev TC (Γ : Ctx) (c : Code) (Q : Exit → Act → World → Prop) (E : Env) (A : HProp) : Prop := TN Γ (c.wpIn Γ.F 0 Γ.P Q) E A
abbrev TO (Γ : Ctx) (ops : Array Oper) (Q : Exit → Act → World → Prop) (l : List Nat) (E : Env) (A : HProp) : Prop := TN Γ (wpOpsIn Γ.F 0 Γ.P ops Q l) E A
/-- One operation; then K. -/
abbrev TOp (Γ : Ctx) (ops : Array Oper) (Q : Exit → Act → World → Prop) (i : Nat) (K : Act → World → Prop) (E : Env) (A : HProp) : Prop := TN Γ (wpOpIn Γ.F 0 Γ.P ops Q i K) E A

noncomputable def leastOf (p : Nat → Prop) : Nat := Classical.epsilon fun m => p m ∧ ∀ n, p n → m ≤ n
theorem leastOf_spec {p : Nat → Prop} (h : ∃ n, p n) : p (leastOf p) ∧ ∀ n, p n → leastOf p ≤ n := by
  have : ∃ m, p m ∧ ∀ n, p n → m ≤ n := by
    obtain ⟨n, hn⟩ := h
    induction n using Nat.strongRecOn with
    | _ n ih =>
      by_cases hc : ∃ k, k < n ∧ p k
      · obtain ⟨k, hk, hp⟩ := hc; exact ih k hk hp
      · exact ⟨n, hn, fun k hp => Nat.le_of_not_lt fun hlt => hc ⟨k, hlt, hp⟩⟩
  exact Classical.epsilon_spec this

section rules
variable {Γ : Ctx} {Q : Exit → Act → World → Prop} {K : Act → World → Prop} {E E' : Env} {A A' : HProp}

theorem TN.conseq (h : TN Γ K E' A') (l : E.le E') (e : Ent A A') : TN Γ K E A := fun a w ha hw => h a w (Env.holds_le ha l) (Ctx.ok_mono hw e)
theorem TN.pre (h : TN Γ K E A') (e : Ent A A') : TN Γ K E A := fun a w ha hw => h a w ha (Ctx.ok_mono hw e)
theorem TN.lift {p : Prop} (h : p → TN Γ K E A) : TN Γ K E (star (Sl.lift p) A) := fun a w ha hw => by
  have h1 := hw.1
  rw [star_assoc] at h1
  obtain ⟨hp, h2⟩ := Sat.lift.1 h1
  exact h hp a w ha ⟨h2, hw.2⟩
theorem TN.ex {α : Sort _} {B : α → HProp} (h : ∀ x, TN Γ K E (star (B x) A)) : TN Γ K E (star (Sl.ex B) A) := fun a w ha hw => by
  have h1 := hw.1
  rw [star_assoc] at h1
  obtain ⟨x, hx⟩ := Sat.ex.1 h1
  exact h x a w ha ⟨by rw [star_assoc]; exact hx, hw.2⟩
theorem TC_skip (h : TN Γ (Q .normal) E A) : TC Γ .skip Q E A := fun a w ha hw => wpIn_skip (h a w ha hw)
theorem TC_label {l : Nat} (h : TN Γ (Q .normal) E A) : TC Γ (.label l) Q E A := fun a w ha hw => wpIn_label (h a w ha hw)
theorem TC_exit {id : Nat} (h : TN Γ (Q (.exit id)) E A) : TC Γ (.exit id) Q E A := fun a w ha hw => wpIn_exit (h a w ha hw)
theorem TC_ret (h : TN Γ (Q .ret) E A) : TC Γ .ret Q E A := fun a w ha hw => wpIn_ret (h a w ha hw)
theorem TC_seq {x y : Code} (h : TC Γ x (Exit.then (y.wpIn Γ.F 0 Γ.P Q) Q) E A) : TC Γ (.seq x y) Q E A := fun a w ha hw => wpIn_seq (h a w ha hw)
theorem TC_block {id : Nat} {c : Code} (h : TC Γ c (Exit.inBlock id Q) E A) : TC Γ (.block id c) Q E A := fun a w ha hw => wpIn_block (h a w ha hw)
theorem TC_cond {c : Operand} {x y : Code} {t : Bool} (hc : E.get c = some (.bool t)) (ht : t = true → TC Γ x Q E A) (hf : t = false → TC Γ y Q E A) :
    TC Γ (.cond c x y) Q E A := fun a w ha hw => wpIn_cond_split (Env.get_eval ha hc) (fun h => ht h a w ha hw) (fun h => hf h a w ha hw)
theorem TC_true {c : Operand} {x y : Code} (hc : E.get c = some (.bool true)) (h : TC Γ x Q E A) : TC Γ (.cond c x y) Q E A :=
  TC_cond hc (fun _ => h) (fun h => by cases h)
theorem TC_false {c : Operand} {x y : Code} (hc : E.get c = some (.bool false)) (h : TC Γ y Q E A) : TC Γ (.cond c x y) Q E A :=
  TC_cond hc (fun h => by cases h) (fun _ => h)
theorem TC_loop {c : Code} {ι : Type} (J : ι → Env) (B : ι → HProp) (μ : ι → Nat) (i : ι) (hE : E.le (J i)) (hA : Ent A (B i))
    (h : ∀ i, TC Γ c (Exit.then (fun a w => ∃ j, μ j < μ i ∧ (J j).holds a ∧ Γ.ok w (B j)) Q) (J i) (B i)) : TC Γ (.loop c) Q E A := by
  intro a w ha hw
  let fits : Act → World → Nat → Prop := fun a w m => ∃ i, μ i = m ∧ (J i).holds a ∧ Γ.ok w (B i)
  refine wpIn_loop (fun a w => ∃ m, fits a w m) (fun a w => leastOf (fits a w)) ⟨_, i, rfl, Env.holds_le ha hE, Ctx.ok_mono hw hA⟩ ?_
  intro a w hex
  obtain ⟨⟨i, him, h1, h2⟩, _⟩ := leastOf_spec hex
  refine wpIn_mono (h i a w h1 h2) ?_
  rintro e a' w' hq
  cases e with
  | normal =>
    obtain ⟨j, hj, hj1, hj2⟩ := hq
    have hex' : ∃ m, fits a' w' m := ⟨_, j, rfl, hj1, hj2⟩
    refine ⟨hex', ?_⟩
    have := (leastOf_spec hex').2 (μ j) ⟨j, rfl, hj1, hj2⟩
    show leastOf (fits a' w') < leastOf (fits a w)
    omega
  | exit id => exact hq
  | goto l => exact hq
  | ret => exact hq
  | panic ch => exact hq
  | outgrown => exact hq
theorem TC_region {id : Nat} {ops : Array Oper} (h : TO Γ ops Q (List.range ops.size) E A) : TC Γ (.region id ops false) Q E A :=
  fun a w ha hw => wpIn_region (h a w ha hw)

/-! ### Operations -/
theorem TO_cons {ops : Array Oper} {i : Nat} {rest : List Nat} (h : TOp Γ ops Q i (wpOpsIn Γ.F 0 Γ.P ops Q rest) E A) : TO Γ ops Q (i :: rest) E A := fun a w ha hk => by
  rw [wpOpsIn_cons]; exact h a w ha hk
theorem TO_nil {ops : Array Oper} (h : TN Γ (Q .normal) E A) : TO Γ ops Q [] E A := fun a w ha hw => h a w ha hw

/-- Whether an operation is wanted. -/
def wantedE (E : Env) (ops : Array Oper) (o : Oper) : Option Bool :=
  match o.guard with
  | none => some true
  | some (j, want) => match (ops[j]?).bind (·.dst) with
    | some t => match look t E.vals with
      | some (.bool b) => some (b == want)
      | some (.tuple _) => some false
      | _ => none
    | none => none
theorem wanted_of {ops : Array Oper} {o : Oper} {a : Act} {b : Bool} (ha : E.holds a) (h : wantedE E ops o = some b) : Region.wanted o (yielded ops a.tmps) = b := by
  unfold wantedE at h
  unfold Region.wanted yielded
  split at h
  · rename_i hg; rw [hg]; exact Option.some.inj h
  · rename_i j want hg
    rw [hg]
    split at h
    · rename_i t ht
      simp only [ht]
      split at h
      · rename_i b' hb'
        have := ha.2.2 t _ hb'
        simp only [Option.bind_some, this]
        rw [← Option.some.inj h]
        cases b' <;> cases want <;> rfl
      · rename_i vs hb'
        have := ha.2.2 t _ hb'
        simp only [Option.bind_some, this]
        rw [← Option.some.inj h]
        cases want <;> rfl
      · cases h
    · cases h

theorem TOp_skip {ops : Array Oper} {i : Nat} {o : Oper} (ho : ops[i]? = some o) (hw : wantedE E ops o = some false) (hd : E.okDst o.dst = true)
    (h : TN Γ K (E.put o.dst undef) A) : TOp Γ ops Q i K E A := fun a w ha hk => by
  unfold wpOpIn
  simp only [ho, wanted_of ha hw]
  exact ⟨fun f _ => Γ.fn f, h _ w (Env.holds_put ha hd _) hk⟩

/-- An operation that yields a value, whatever else there is. -/
theorem TOp_val {ops : Array Oper} {i : Nat} {o : Oper} (ho : ops[i]? = some o) (hw : wantedE E ops o = some true) (hd : E.okDst o.dst = true)
    (hdef : ∀ c, o.op ≠ .defer c) {ι : Type} {V : ι → Value} {B : ι → HProp}
    (hop : ∀ a w, E.holds a → Γ.ok w A → ∃ x w', ((execOp a.eval o).run Γ.P w = .ok (.value (V x)) w' ∨ (execOp a.eval o).run Γ.P w = .ok .skip w' ∧ V x = undef) ∧ Γ.ok w' (B x))
    (h : ∀ x, TN Γ K (E.put o.dst (V x)) (B x)) : TOp Γ ops Q i K E A := fun a w ha hk => by
  unfold wpOpIn
  simp only [ho, wanted_of ha hw, if_true, Oper.wpIn]
  refine ⟨fun f _ => Γ.fn f, ?_⟩
  rw [Oper.semAt_eq _ _ _ hdef]
  obtain ⟨x, w', hrun, hk'⟩ := hop a w ha hk
  rcases hrun with hrun | ⟨hrun, hv⟩
  · rw [hrun, Oper.uponIn_value]
    exact h x _ w' (Env.holds_put ha hd _) hk'
  · rw [hrun, Oper.uponIn_skip, ← hv]
    exact h x _ w' (Env.holds_put ha hd _) hk'

/-- A call. -/
theorem TOp_call {ops : Array Oper} {i : Nat} {o : Oper} (ho : ops[i]? = some o) (hw : wantedE E ops o = some true) (hd : E.okDst o.dst = true)
    (hdef : ∀ c, o.op ≠ .defer c) {f : FuncId} {args : Array Value} {A1 A2 : HProp} {B : Value → HProp}
    (hop : ∀ a w, E.holds a → (execOp a.eval o).run Γ.P w = .ok (.enter f args) w)
    (hf : FN Γ.S Γ.P f args A1 B) (hA : Ent A (star A1 A2)) (h : ∀ v, TN Γ K (E.put o.dst v) (star (B v) A2)) : TOp Γ ops Q i K E A := fun a w ha hk => by
  unfold wpOpIn
  simp only [ho, wanted_of ha hw, if_true, Oper.wpIn]
  refine ⟨fun f _ => Γ.fn f, ?_⟩
  rw [Oper.semAt_eq _ _ _ hdef, hop a w ha, Oper.uponIn_enter]
  refine ⟨Γ.depth, Γ.callsIn ?_ _⟩
  have hk' := Ctx.ok_mono hk hA
  refine (hf.frame A2 Γ.R w hk'.1).mono ?_
  rintro e w' ⟨v, rfl, hs, hkept⟩
  exact h v _ w' (Env.holds_put ha hd _) ⟨hs, hk'.2.trans hkept⟩
end rules

/-! ### A function from its body -/
/-- What is asked where a body ends. -/
def BodyEnds (P : Program) (fn : Func) (S : Hp) (R : HProp) (w0 : World) (Q : Value → HProp) (a : Act) (w : World) : Prop :=
  a.defers = [] ∧ ∃ v, (results fn a.tmps).run P w = .ok v w ∧ Sat w (star (Q v) (star (own S) R)) ∧ Kept w0 w

def bodyQ (P : Program) (fn : Func) (S : Hp) (R : HProp) (w0 : World) (Q : Value → HProp) : Exit → Act → World → Prop
  | .normal, a, w | .ret, a, w => BodyEnds P fn S R w0 Q a w
  | _, _, _ => False

theorem FN_of_body {S : Hp} {P : Program} {f : FuncId} {fn : Func} {c : Code} {args : Array Value} {A : HProp} {Q : Value → HProp}
    (hf : P.funcs[f]? = some fn) (hb : fn.body = some c) {n : Nat} (hn : fn.ntmps = n) (hsz : args.size ≤ n)
    (h : ∀ R w0, TC { P, S, R, w0 } c (bodyQ P fn S R w0 Q) ⟨n, [], args.toList.zipIdx.map fun x => (x.2, x.1)⟩ A) : FN S P f args A Q := fun R w hs => by
  refine callsIn_wide (n := 0).1 (callsIn_of_wp hf hb trivial ?_)
  refine wpIn_mono (h R w _ w ?_ ⟨hs, .refl _⟩) ?_
  · refine ⟨by simp [hn]; omega, rfl, fun t v hv => ?_⟩
    have key : ∀ (l : List Value) (k : Nat), look t ((l.zipIdx k).map fun x => (x.2, x.1)) = some v → k ≤ t ∧ l[t - k]? = some v := by
      intro l
      induction l with
      | nil => intro k h; cases h
      | cons x r ih =>
        intro k h
        simp only [List.zipIdx_cons, List.map_cons, look_cons] at h
        by_cases hk : k = t
        · subst hk; rw [if_pos rfl] at h; cases h; simp
        · rw [if_neg hk] at h
          obtain ⟨h1, h2⟩ := ih (k + 1) h
          refine ⟨by omega, ?_⟩
          have : t - k = (t - (k + 1)) + 1 := by omega
          rw [this]; simpa using h2
    obtain ⟨_, h2⟩ := key args.toList 0 hv
    simp at h2
    show (args ++ Array.replicate _ undef)[t]? = some v
    rw [Array.getElem?_append_left (by
      have := (Array.getElem?_eq_some_iff.1 h2).1
      exact this)]
    exact h2
  · intro e a w' hq
    cases e with
    | normal =>
      obtain ⟨hd, v, hr, hs', hk⟩ := hq
      exact ⟨hd, v, hr, v, rfl, hs', hk⟩
    | ret =>
      obtain ⟨hd, v, hr, hs', hk⟩ := hq
      exact ⟨hd, v, hr, v, rfl, hs', hk⟩
    | exit id => exact hq.elim
    | goto l => exact hq.elim
    | panic ch => exact hq.elim
    | outgrown => exact hq.elim

end Go.Sl

/-
  Separation logic over the model's heap, third part: the operations that touch no memory, by one function that computes what they yield.
-/
namespace Go.Sl
open Go

/-! ### What is known of the types -/
structure Ty where
  ud : TypeDesc
  size : Nat
  bytes : Nat
  zero : Value

structure Tys where
  tab : List (Nat × Ty)

def lookTy (t : Nat) : List (Nat × Ty) → Option Ty
  | [] => none
  | (s, v) :: r => match Nat.beq s t with
    | true => some v
    | false => lookTy t r

def Tys.get (T : Tys) (t : TypeId) : Option Ty := lookTy t T.tab

def Ty.fits (P : Program) (t : TypeId) (y : Ty) : Prop :=
  P.underlying t = some y.ud ∧ (P.info? t).map (fun i => (i.size, i.bytes, i.zero)) = some (y.size, y.bytes, some y.zero)

/-- All that the table says is so. -/
def Tys.Of (T : Tys) (P : Program) : Prop := ∀ x ∈ T.tab, Ty.fits P x.1 x.2

theorem lookTy_mem {t : Nat} {y : Ty} : ∀ {l : List (Nat × Ty)}, lookTy t l = some y → (t, y) ∈ l
  | [], h => by cases h
  | (s, v) :: r, h => by
    unfold lookTy at h
    cases hb : Nat.beq s t with
    | true =>
      rw [hb] at h
      have : s = t := Nat.eq_of_beq_eq_true hb
      subst this
      cases h
      exact .head _
    | false => rw [hb] at h; exact .tail _ (lookTy_mem h)

def AllFits (P : Program) : List (Nat × Ty) → Prop
  | [] => True
  | x :: r => Ty.fits P x.1 x.2 ∧ AllFits P r
theorem Tys.of_list {P : Program} : ∀ {l : List (Nat × Ty)}, AllFits P l → Tys.Of ⟨l⟩ P
  | [], _, x, hx => by cases hx
  | y :: r, h, x, hx => by
    cases hx with
    | head => exact h.1
    | tail _ hx => exact Tys.of_list h.2 x hx

theorem Tys.Of.fits {T : Tys} {P : Program} (h : T.Of P) {t : TypeId} {y : Ty} (e : T.get t = some y) : Ty.fits P t y := h _ (lookTy_mem e)

section
variable {P : Program} {t : TypeId} {y : Ty} (w : World)
theorem Ty.fits.ud (h : Ty.fits P t y) : P.underlying t = some y.ud := h.1
theorem Ty.fits.info (h : Ty.fits P t y) : ∃ i, P.info? t = some i ∧ i.size = y.size ∧ i.bytes = y.bytes ∧ i.zero = some y.zero := by
  have h2 := h.2
  cases hi : P.info? t with
  | none => rw [hi] at h2; cases h2
  | some i =>
    rw [hi] at h2
    simp only [Option.map_some, Option.some.injEq, Prod.mk.injEq] at h2
    exact ⟨i, rfl, h2.1, h2.2.1, h2.2.2⟩
theorem Ty.fits.run_underlying (h : Ty.fits P t y) : (underlying t).run P w = .ok y.ud w := by
  unfold Go.underlying
  simp [Go.program, Sem.run, h.ud]
theorem Ty.fits.run_typeInfo (h : Ty.fits P t y) : ∃ i, (typeInfo t).run P w = .ok i w ∧ i.size = y.size ∧ i.bytes = y.bytes ∧ i.zero = some y.zero := by
  obtain ⟨i, hi, h1, h2, h3⟩ := h.info
  exact ⟨i, by unfold Go.typeInfo; simp [Go.program, Sem.run, hi], h1, h2, h3⟩
theorem Ty.fits.run_sizeOf (h : Ty.fits P t y) : (sizeOf t).run P w = .ok y.size w := by
  obtain ⟨i, hi, h1, _⟩ := h.run_typeInfo w
  unfold Go.sizeOf
  simp [hi, h1]
theorem Ty.fits.run_zeroValue (h : Ty.fits P t y) : (zeroValue t).run P w = .ok y.zero w := by
  obtain ⟨i, hi, _, _, h3⟩ := h.run_typeInfo w
  unfold Go.zeroValue
  simp [hi, h3]
end

/-! ### What an operation yields that touches no memory -/
def aggTy (d : TypeDesc) : Bool := match d with
  | .struct _ => true
  | .array _ _ => true
  | _ => false

def sliceL (l : List Value) (off n : Nat) : List Value := (l.drop off).take n

/-- A part of a struct's or an array's value. -/
def partV (y : Ty) (cs : List Value) (off : Nat) : Option Value :=
  match aggTy y.ud with
  | true => some (.agg (sliceL cs off y.size).toArray)
  | false => cs[off]?

/-- Some cells are set. -/
def setAll : List Value → Nat → List Value → List Value
  | l, _, [] => l
  | l, i, v :: vs => setAll (l.set i v) (i + 1) vs

def cellsL (v : Value) : List Value := match v with
  | .agg cs => cs.toList
  | v => [v]

def fillL (place : Nat → Option (Nat × Nat)) (cells : List Value) : List (Nat × Value) → Option (List Value)
  | [] => some cells
  | (i, v) :: rest =>
    match place i with
    | none => none
    | some (off, size) =>
      match Nat.beq (cellsL v).length size && Nat.ble (off + (cellsL v).length) cells.length with
      | true => fillL place (setAll cells off (cellsL v)) rest
      | false => none

def getAll (E : Env) : List Operand → Option (List Value)
  | [] => some []
  | x :: r => match E.get x, getAll E r with
    | some v, some l => some (v :: l)
    | _, _ => none
def getParts (E : Env) : List (Nat × Operand) → Option (List (Nat × Value))
  | [] => some []
  | (i, x) :: r => match E.get x, getParts E r with
    | some v, some l => some ((i, v) :: l)
    | _, _ => none

theorem getAll_eval {E : Env} {a : Act} (ha : E.holds a) : ∀ {l : List Operand} {vs : List Value}, getAll E l = some vs → l.map a.eval = vs
  | [], _, h => by cases h; rfl
  | x :: r, vs, h => by
    unfold getAll at h
    split at h
    · rename_i v l hv hl
      cases h
      rw [List.map_cons, Env.get_eval ha hv, getAll_eval ha hl]
    · cases h
theorem getParts_eval {E : Env} {a : Act} (ha : E.holds a) : ∀ {l : List (Nat × Operand)} {vs : List (Nat × Value)}, getParts E l = some vs → l.map (fun x => (x.1, a.eval x.2)) = vs
  | [], _, h => by cases h; rfl
  | (i, x) :: r, vs, h => by
    unfold getParts at h
    split at h
    · rename_i v l hv hl
      cases h
      rw [List.map_cons, Env.get_eval ha hv, getParts_eval ha hl]
    · cases h

def cmpInt (op : BinOp) (x y : Int) : Option Value :=
  match op with
  | .eql => some (.bool (x == y))
  | .neq => some (.bool (x != y))
  | .lss => some (.bool (decide (x < y)))
  | .leq => some (.bool (decide (x ≤ y)))
  | .gtr => some (.bool (decide (x > y)))
  | .geq => some (.bool (decide (x ≥ y)))
  | _ => none

def bitsInt (op : BinOp) (k : IntKind) (x y : Int) : Option Value :=
  match op with
  | .and => some (.int k (k.wrap (BitVec.ofInt k.bits x &&& BitVec.ofInt k.bits y).toNat))
  | .or => some (.int k (k.wrap (BitVec.ofInt k.bits x ||| BitVec.ofInt k.bits y).toNat))
  | .xor => some (.int k (k.wrap (BitVec.ofInt k.bits x ^^^ BitVec.ofInt k.bits y).toNat))
  | .andNot => some (.int k (k.wrap (BitVec.ofInt k.bits x &&& ~~~ BitVec.ofInt k.bits y).toNat))
  | _ => none

def binInt (op : BinOp) (k : IntKind) (x y : Int) : Option Value :=
  match op with
  | .add => some (.int k (k.wrap (x + y)))
  | .sub => some (.int k (k.wrap (x - y)))
  | .mul => some (.int k (k.wrap (x * y)))
  | .and => bitsInt .and k x y
  | .or => bitsInt .or k x y
  | .xor => bitsInt .xor k x y
  | .andNot => bitsInt .andNot k x y
  | .quo => match y with
    | .ofNat (n + 1) => some (.int k (k.wrap (x.tdiv (Int.ofNat (n + 1)))))
    | _ => none
  | .rem => match y with
    | .ofNat (n + 1) => some (.int k (x.tmod (Int.ofNat (n + 1))))
    | _ => none
  | op => cmpInt op x y

def binStr (op : BinOp) (x y : ByteArray) : Option Value :=
  match op with
  | .eql => some (.bool (x.toList == y.toList))
  | .neq => some (.bool (!(x.toList == y.toList)))
  | _ => none

def kindEq (a b : IntKind) : Bool := match a, b with
  | .i8, .i8 => true | .i16, .i16 => true | .i32, .i32 => true | .i64, .i64 => true
  | .u8, .u8 => true | .u16, .u16 => true | .u32, .u32 => true | .u64, .u64 => true
  | _, _ => false
theorem kindEq_eq {a b : IntKind} (h : kindEq a b = true) : a = b := by cases a <;> cases b <;> first | rfl | cases h

def binV (T : Tys) (op : BinOp) (t : TypeId) (x y : Value) : Option Value :=
  match op, x, y with
  | .shl, .int k a, .int _ (.ofNat n) => some (.int k (k.wrap (a * 2 ^ (min n k.bits))))
  | .shr, .int k a, .int _ (.ofNat n) => some (.int k (a.fdiv (2 ^ (min n k.bits))))
  | .shl, .int _ _, .int _ _ => none
  | .shr, .int _ _, .int _ _ => none
  | op, .int k a, .int k' b => match kindEq k k' with
    | true => binInt op k a b
    | false => none
  | op, .string a, .string b => binStr op a b
  | .eql, .bool a, .bool b => match T.get t with
    | some ⟨.bool, _, _, _⟩ => some (.bool (a == b))
    | _ => none
  | .neq, .bool a, .bool b => match T.get t with
    | some ⟨.bool, _, _, _⟩ => some (.bool (!(a == b)))
    | _ => none
  | .eql, .pointer p, .pointer none => match T.get t with
    | some ⟨.pointer _, _, _, _⟩ => some (.bool p.isNone)
    | _ => none
  | .neq, .pointer p, .pointer none => match T.get t with
    | some ⟨.pointer _, _, _, _⟩ => some (.bool (!p.isNone))
    | _ => none
  | .eql, .map p, .map none => match T.get t with
    | some ⟨.map _ _, _, _, _⟩ => some (.bool p.isNone)
    | _ => none
  | .neq, .map p, .map none => match T.get t with
    | some ⟨.map _ _, _, _, _⟩ => some (.bool (!p.isNone))
    | _ => none
  | .eql, .slice p _ _, .slice none _ _ => match T.get t with
    | some ⟨.slice _, _, _, _⟩ => some (.bool p.isNone)
    | _ => none
  | .neq, .slice p _ _, .slice none _ _ => match T.get t with
    | some ⟨.slice _, _, _, _⟩ => some (.bool (!p.isNone))
    | _ => none
  | _, _, _ => none

def placesL (T : Tys) : List Field → Option (List (Nat × Nat))
  | [] => some []
  | f :: r => match T.get f.type, placesL T r with
    | some y, some l => some ((f.offset, y.size) :: l)
    | _, _ => none

def pureV (T : Tys) (E : Env) (o : Oper) : Option Value :=
  match o.op with
  | .move x => E.get x
  | .assign x => E.get x
  | .pick c a b => match E.get c with
    | some (.bool true) => E.get a
    | some (.bool false) => E.get b
    | _ => none
  | .nilCheck x => match E.get x with
    | some (.pointer (some a)) => some (.pointer (some a))
    | some (.func (.func f) p q) => some (.func (.func f) p q)
    | some (.func (.yield f) p q) => some (.func (.yield f) p q)
    | _ => none
  | .binOp op t x y _ => match E.get x, E.get y with
    | some u, some v => binV T op t u v
    | _, _ => none
  | .unOp op _ x => match op, E.get x with
    | .not, some (.bool b) => some (.bool (!b))
    | .neg, some (.int k n) => some (.int k (k.wrap (0 - n)))
    | .xor, some (.int k n) => bitsInt .xor k (if k.signed then -1 else k.max) n
    | _, _ => none
  | .convert src dst x => match T.get src, T.get dst, E.get x with
    | some ⟨.int _, _, _, _⟩, some ⟨.int k, _, _, _⟩, some (.int _ n) => some (.int k (k.wrap n))
    | some ⟨.string, _, _, _⟩, some ⟨.string, _, _, _⟩, some (.string s) => some (.string s)
    | _, _, _ => none
  | .makeFunc fn first captured => match getAll E first.toList, getAll E captured.toList with
    | some p, some q => some (.func fn p.toArray q.toArray)
    | _, _ => none
  | .fieldAddr s x f => match T.get s, E.get x with
    | some ⟨.struct fs, _, _, _⟩, some (.pointer (some ⟨b, o, none⟩)) => match fs.toList[f]? with
      | some fl => match T.get fl.type with
        | some ⟨_, _ + 1, _, _⟩ => some (.pointer (some ⟨b, o + fl.offset, none⟩))
        | _ => none
      | none => none
    | _, _ => none
  | .field t x f => match T.get t, E.get x with
    | some ⟨.struct fs, _, _, _⟩, some (.agg cs) => match fs.toList[f]? with
      | some fl => match T.get fl.type with
        | some y => partV y cs.toList fl.offset
        | none => none
      | none => none
    | _, _ => none
  | .extract t i => match E.get t with
    | some (.tuple vs) => vs.toList[i]?
    | _ => none
  | .build t parts => match T.get t with
    | some ⟨.struct fs, _, _, z⟩ => match getParts E parts.toList with
      | some ps => match placesL T fs.toList with
        | some pl => match fillL (fun i => pl[i]?) (cellsL z) ps with
          | some cs => some (.agg cs.toArray)
          | none => none
        | none => none
      | none => none
    | some ⟨.array _ e, _, _, z⟩ => match getParts E parts.toList with
      | some ps => match T.get e with
        | some ye => match fillL (fun i => some (i * ye.size, ye.size)) (cellsL z) ps with
          | some cs => some (.agg cs.toArray)
          | none => none
        | none => none
      | none => none
    | _ => none
  | .call c => match c.callee with
    | .builtin .len => match c.argTypes.toList, c.args.toList with
      | [t], [x] => match T.get t, E.get x with
        | some ⟨.slice _, _, _, _⟩, some (.slice _ n _) => some (.int .i64 n)
        | some ⟨.string, _, _, _⟩, some (.string s) => some (.int .i64 s.size)
        | some ⟨.array n _, _, _, _⟩, some _ => some (.int .i64 n)
        | some ⟨.map _ _, _, _, _⟩, some (.map none) => some (.int .i64 0)
        | _, _ => none
      | _, _ => none
    | .builtin .max => match c.args.toList with
      | [x, y] => match E.get x, E.get y with
        | some (.int k a), some (.int _ b) => some (.int k (if b > a then b else a))
        | _, _ => none
      | _ => none
    | .builtin .min => match c.args.toList with
      | [x, y] => match E.get x, E.get y with
        | some (.int k a), some (.int _ b) => some (.int k (if b < a then b else a))
        | _, _ => none
      | _ => none
    | _ => none
  | _ => none

section sound
variable {P : Program} {T : Tys} (hT : T.Of P) (w : World)

theorem cmpInt_sound {op : BinOp} {t : TypeId} {k : IntKind} {a b : Int} {v : Value} (h : cmpInt op a b = some v) : (binOp op t (.int k a) (.int k b)).run P w = .ok v w := by
  cases op <;> simp only [cmpInt] at h <;> first | (cases h; simp [binOp, Op.intCmp]) | cases h
theorem bitsInt_sound {op : BinOp} {k : IntKind} {a b : Int} {v : Value} (h : bitsInt op k a b = some v) : (Op.intBits op k a b).run P w = .ok v w := by
  cases op <;> simp only [bitsInt] at h <;> first | (cases h; simp [Op.intBits]) | cases h
theorem binInt_sound {op : BinOp} {t : TypeId} {k : IntKind} {a b : Int} {v : Value} (h : binInt op k a b = some v) (h1 : op ≠ .shl) (h2 : op ≠ .shr) : (binOp op t (.int k a) (.int k b)).run P w = .ok v w := by
  cases op <;> simp only [binInt] at h
  case add => cases h; simp [binOp, Op.intArith]
  case sub => cases h; simp [binOp, Op.intArith]
  case mul => cases h; simp [binOp, Op.intArith]
  case and => simpa [binOp] using bitsInt_sound w h
  case or => simpa [binOp] using bitsInt_sound w h
  case xor => simpa [binOp] using bitsInt_sound w h
  case andNot => simpa [binOp] using bitsInt_sound w h
  case quo =>
    split at h
    · cases h
      simp [binOp, Op.intDiv]
      omega
    · cases h
  case rem =>
    split at h
    · cases h
      simp [binOp, Op.intDiv]
      omega
    · cases h
  case shl => exact absurd rfl h1
  case shr => exact absurd rfl h2
  all_goals exact cmpInt_sound w h

theorem binStr_sound {op : BinOp} {t : TypeId} {a b : ByteArray} {v : Value} (h : binStr op a b = some v) : (binOp op t (.string a) (.string b)).run P w = .ok v w := by
  cases op <;> simp only [binStr] at h <;> first | (cases h; simp [binOp, Op.stringOp]) | cases h

theorem run_equalIn_map_nil (d : Nat) (t : TypeId) (p : Option Nat) {k e : TypeId} (h : P.underlying t = some (.map k e)) :
    (Op.equalIn (d + 1) t (.map p) (.map none)).run P w = .ok p.isNone w := by
  cases p <;> simp [Op.equalIn, Go.underlying, Go.program, Sem.run, h]

theorem run_equalIn_ptr_nil (d : Nat) (t : TypeId) (p : Option Addr) {e : TypeId} (h : P.underlying t = some (.pointer e)) :
    (Op.equalIn (d + 1) t (.pointer p) (.pointer none)).run P w = .ok p.isNone w := by
  cases p <;> simp [Op.equalIn, Go.underlying, Go.program, Sem.run, h]

theorem run_equalIn_slice_nil (d : Nat) (t : TypeId) (p : Option Addr) (n c n' c' : Nat) {e : TypeId} (h : P.underlying t = some (.slice e)) :
    (Op.equalIn (d + 1) t (.slice p n c) (.slice none n' c')).run P w = .ok p.isNone w := by
  cases p <;> simp [Op.equalIn, Go.underlying, Go.program, Sem.run, h]

include hT in
theorem binV_sound {op : BinOp} {t : TypeId} {x y v : Value} (h : binV T op t x y = some v) : (binOp op t x y).run P w = .ok v w := by
  unfold binV at h
  split at h
  · -- <<
    cases h
    simp [binOp, Op.shift]
    intro hc; omega
  · cases h
    simp [binOp, Op.shift]
    intro hc; omega
  · cases h
  · cases h
  · -- ints
    rename_i op k a k' b h1 h2 h3 h4
    split at h
    · rename_i hk
      have := kindEq_eq hk
      subst this
      refine binInt_sound w h ?_ ?_
      · rintro rfl
        exact h3 rfl
      · rintro rfl
        exact h4 rfl
    · cases h
  · exact binStr_sound w h
  · split at h
    · rename_i hy
      cases h
      exact run_eql_bool _ _ _ _ ((hT.fits hy).ud)
    · cases h
  · split at h
    · rename_i hy
      cases h
      exact run_neq_bool _ _ _ _ ((hT.fits hy).ud)
    · cases h
  · split at h
    · rename_i hy
      cases h
      simp [binOp, Op.equal, Op.maxDepth, run_equalIn_ptr_nil w 9999 _ _ ((hT.fits hy).ud)]
    · cases h
  · split at h
    · rename_i hy
      cases h
      simp [binOp, Op.equal, Op.maxDepth, run_equalIn_ptr_nil w 9999 _ _ ((hT.fits hy).ud)]
    · cases h
  · split at h
    · rename_i hy
      cases h
      simp [binOp, Op.equal, Op.maxDepth, run_equalIn_map_nil w 9999 _ _ ((hT.fits hy).ud)]
    · cases h
  · split at h
    · rename_i hy
      cases h
      simp [binOp, Op.equal, Op.maxDepth, run_equalIn_map_nil w 9999 _ _ ((hT.fits hy).ud)]
    · cases h
  · split at h
    · rename_i hy
      cases h
      simp [binOp, Op.equal, Op.maxDepth, run_equalIn_slice_nil w 9999 _ _ _ _ _ _ ((hT.fits hy).ud)]
    · cases h
  · split at h
    · rename_i hy
      cases h
      simp [binOp, Op.equal, Op.maxDepth, run_equalIn_slice_nil w 9999 _ _ _ _ _ _ ((hT.fits hy).ud)]
    · cases h
  · cases h

theorem map_toArray {α β : Type} (f : α → β) (a : Array α) {l : List β} (h : a.toList.map f = l) : a.map f = l.toArray := by
  rw [← h]; apply Array.ext'; simp

include hT in
theorem run_part {y : Ty} {t : TypeId} (hy : T.get t = some y) {cs : Array Value} {off : Nat} {v : Value} (h : partV y cs.toList off = some v) : (part t cs off).run P w = .ok v w := by
  have f := hT.fits hy
  unfold partV at h
  unfold part isAgg
  simp only [Sem.run_bind, f.run_underlying, Result.andThen_ok]
  cases hd : y.ud <;> simp only [hd, aggTy] at h <;> first
    | (cases h
       simp [f.run_sizeOf, sliceL]
       apply Array.ext'
       simp
       done)
    | (simp only [Array.getElem?_toList] at h
       simp [h]
       done)
    | skip

theorem cellsL_eq (v : Value) : v.cells.toList = cellsL v := by cases v <;> rfl

theorem setAll_foldl : ∀ (vs : List Value) (k off : Nat) (cells : Array Value),
    ((vs.zipIdx k).foldl (fun cs (x : Value × Nat) => cs.setIfInBounds (off + x.2) x.1) cells).toList = setAll cells.toList (off + k) vs
  | [], k, off, cells => rfl
  | v :: vs, k, off, cells => by
    simp only [List.zipIdx_cons, List.foldl_cons, setAll]
    rw [setAll_foldl vs (k + 1) off]
    simp [Array.toList_setIfInBounds, Nat.add_assoc]

theorem fill_sound {place place' : Nat → Option (Nat × Nat)} (hp : ∀ i x, place i = some x → place' i = some x) : ∀ {ps : List (Nat × Value)} {cells : Array Value} {l : List Value},
    fillL place cells.toList ps = some l → Instr.fill place' cells ps = some l.toArray
  | [], cells, l, h => by
    simp only [fillL, Option.some.injEq] at h
    simp [Instr.fill, ← h]
  | (i, v) :: ps, cells, l, h => by
    simp only [fillL] at h
    split at h
    · cases h
    · rename_i off size hpl
      split at h
      · rename_i hb
        simp only [Bool.and_eq_true, Nat.beq_eq, Nat.ble_eq, ← cellsL_eq, Array.length_toList] at hb
        simp only [Instr.fill, hp _ _ hpl]
        have h1 : ¬ ((v.cells.size ≠ size || off + v.cells.size > cells.size) = true) := by
          simp; omega
        rw [if_neg (by simpa using h1)]
        refine fill_sound hp ?_
        have := setAll_foldl v.cells.toList 0 off cells
        rw [← Array.foldl_toList, Array.toList_zipIdx, this, Nat.add_zero, cellsL_eq]
        exact h
      · cases h

theorem eqGuard_plain {op : BinOp} {t : TypeId} {x y : Operand} {u v r : Value} (h : binV T op t u v = some r) : (eqGuard op t x y u v).run P w = .ok () w := by
  cases op <;> simp only [eqGuard, Bool.not_true, Bool.not_false, Bool.false_eq_true, if_false, if_true] <;> first
    | rfl
    | (split
       · simp [binV] at h
       · simp [binV] at h
       · rfl)

include hT in
theorem run_places : ∀ {l : List Field} {pl : List (Nat × Nat)}, placesL T l = some pl →
    (l.mapM fun f => Prod.mk f.offset <$> sizeOf f.type : Sem (List (Nat × Nat))).run P w = .ok pl w
  | [], pl, h => by cases h; simp
  | f :: r, pl, h => by
    unfold placesL at h
    split at h
    · rename_i y l hy hl
      cases h
      simp [List.mapM_cons, (hT.fits hy).run_sizeOf, run_places hl]
    · cases h

include hT in
theorem pureV_sound {E : Env} {a : Act} (ha : E.holds a) {o : Oper} {v : Value} (h : pureV T E o = some v) : (execOp a.eval o).run P w = .ok (.value v) w := by
  unfold pureV at h
  unfold execOp
  split at h
  · rename_i x ho; rw [ho]; simp [Env.get_eval ha h]
  · rename_i x ho; rw [ho]; simp [Env.get_eval ha h]
  · rename_i c p q ho
    rw [ho]
    split at h
    · rename_i hc; simp [Env.get_eval ha hc, Env.get_eval ha h, asBool]
    · rename_i hc; simp [Env.get_eval ha hc, Env.get_eval ha h, asBool]
    · cases h
  · rename_i x ho
    rw [ho]
    split at h
    · rename_i hx; cases h; simp [Env.get_eval ha hx]
    · rename_i hx; cases h; simp [Env.get_eval ha hx]
    · rename_i hx; cases h; simp [Env.get_eval ha hx]
    · cases h
  · rename_i op t x y ty ho
    rw [ho]
    split at h
    · rename_i u u' hu hu'
      have hb := binV_sound hT w h
      have hg : (eqGuard op t x y (a.eval x) (a.eval y)).run P w = .ok () w := by
        rw [Env.get_eval ha hu, Env.get_eval ha hu']
        exact eqGuard_plain w h
      simp [Env.get_eval ha hu, Env.get_eval ha hu'] at hg ⊢
      simp [hg, hb]
    · cases h
  · rename_i op t x ho
    rw [ho]
    split at h
    · rename_i hx; cases h; simp [Env.get_eval ha hx, Op.unary]
    · rename_i hx; cases h; simp [Env.get_eval ha hx, Op.unary, Op.intArith]
    · rename_i hx; simp [Env.get_eval ha hx, Op.unary, bitsInt_sound w h]
    · cases h
  · rename_i src dst x ho
    rw [ho]
    split at h
    · rename_i h1 h2 hx
      cases h
      simp [convert, Env.get_eval ha hx, (hT.fits h1).run_underlying, (hT.fits h2).run_underlying, Conv.intToInt]
    · rename_i h1 h2 hx
      cases h
      simp [convert, Env.get_eval ha hx, (hT.fits h1).run_underlying, (hT.fits h2).run_underlying]
    · cases h
  · rename_i fn first captured ho
    rw [ho]
    split at h
    · rename_i p q hp hq
      cases h
      have e1 := map_toArray a.eval first (getAll_eval ha hp)
      have e2 := map_toArray a.eval captured (getAll_eval ha hq)
      simp [Instr.makeFunc, e1, e2]
    · cases h
  · rename_i s x f ho
    rw [ho]
    split at h
    · rename_i fs sz by_ z b o h1 hx
      split at h
      · rename_i fl hfl
        split at h
        · rename_i d n bb zz h2
          cases h
          have hfl' : fs[f]? = some fl := by simpa using hfl
          have hz := (hT.fits h2).run_sizeOf w
          simp [Instr.fieldAt, Env.get_eval ha hx, (hT.fits h1).run_underlying, hfl', Instr.sureAddr, fieldPlace, hz, Addr.add]
        · cases h
      · cases h
    · cases h
  · rename_i t x f ho
    rw [ho]
    split at h
    · rename_i fs sz by_ z cs h1 hx
      split at h
      · rename_i fl hfl
        split at h
        · rename_i y h2
          have hfl' : fs[f]? = some fl := by simpa using hfl
          simp [Instr.field, Env.get_eval ha hx, (hT.fits h1).run_underlying, hfl', asAgg, run_part hT w h2 h]
        · cases h
      · cases h
    · cases h
  · rename_i t i ho
    rw [ho]
    split at h
    · rename_i vs hx
      have : vs[i]? = some v := by simpa using h
      simp [Instr.extract, Env.get_eval ha hx, this]
    · cases h
  · rename_i t parts ho
    rw [ho]
    split at h
    · rename_i fs sz by_ z h1
      split at h
      · rename_i ps hps
        split at h
        · rename_i pl hpl
          split at h
          · rename_i cs hcs
            cases h
            have e1 : (parts.map fun (x : Nat × Operand) => (x.1, a.eval x.2)) = ps.toArray := map_toArray _ _ (getParts_eval ha hps)
            have hz := (hT.fits h1).run_zeroValue w
            have hp := run_places hT w hpl
            have hf : Instr.fill (fun i => pl[i]?) z.cells ps = some cs.toArray := by
              refine fill_sound (place := fun i => pl[i]?) (fun i x hx => hx) ?_
              rw [cellsL_eq]; exact hcs
            have e2 : (fs.mapM fun f => Prod.mk f.offset <$> sizeOf f.type : Sem (Array (Nat × Nat))).run P w = .ok pl.toArray w := by
              rw [Array.mapM_eq_mapM_toList]
              simp [hp]
            have e1' : (parts.map fun x => match x with | (i, x) => (i, a.eval x)) = ps.toArray := e1
            simp only [Instr.build]
            simp [hz, (hT.fits h1).run_underlying, e2, e1', hf]
          · cases h
        · cases h
      · cases h
    · rename_i n e sz by_ z h1
      split at h
      · rename_i ps hps
        split at h
        · rename_i ye hye
          split at h
          · rename_i cs hcs
            cases h
            have e1 : (parts.map fun (x : Nat × Operand) => (x.1, a.eval x.2)) = ps.toArray := map_toArray _ _ (getParts_eval ha hps)
            have hz := (hT.fits h1).run_zeroValue w
            have hf : Instr.fill (fun i => some (i * ye.size, ye.size)) z.cells ps = some cs.toArray := by
              refine fill_sound (place := fun i => some (i * ye.size, ye.size)) (fun i x hx => hx) ?_
              rw [cellsL_eq]; exact hcs
            have e1' : (parts.map fun x => match x with | (i, x) => (i, a.eval x)) = ps.toArray := e1
            simp only [Instr.build]
            simp [hz, (hT.fits h1).run_underlying, (hT.fits hye).run_sizeOf, e1', hf]
          · cases h
        · cases h
      · cases h
    · cases h
  · rename_i c ho
    rw [ho]
    split at h
    · rename_i hc
      split at h
      · rename_i t x ht hx
        have hargs : c.args.map a.eval = #[a.eval x] := map_toArray _ _ (by rw [hx]; rfl)
        have hts : c.argTypes = #[t] := by apply Array.ext'; simpa using ht
        split at h <;> first
          | (rename_i h1 h2
             cases h
             simp [resolve, hc, hargs, invoke, builtin, Builtin.len_, hts, Env.get_eval ha h2, (hT.fits h1).run_underlying, goInt]
             done)
          | cases h
      · cases h
    · rename_i hc
      split at h
      · rename_i x y hx
        have hargs : c.args.map a.eval = #[a.eval x, a.eval y] := map_toArray _ _ (by rw [hx]; rfl)
        split at h
        · rename_i h1 h2
          cases h
          simp [resolve, hc, hargs, invoke, builtin, Env.get_eval ha h1, Env.get_eval ha h2, Builtin.max_, Builtin.max2]
        · cases h
      · cases h
    · rename_i hc
      split at h
      · rename_i x y hx
        have hargs : c.args.map a.eval = #[a.eval x, a.eval y] := map_toArray _ _ (by rw [hx]; rfl)
        split at h
        · rename_i h1 h2
          cases h
          simp [resolve, hc, hargs, invoke, builtin, Env.get_eval ha h1, Env.get_eval ha h2, Builtin.min_, Builtin.min2]
        · cases h
      · cases h
    · cases h
  · cases h
end sound
end Go.Sl

/-
  Separation logic over the model's heap, fourth part: loads, stores, new blocks.
-/
namespace Go.Sl
open Go

/-- A block of cells. -/
def cel (b : Nat) (t : TypeId) (l : List Value) : HProp := pt b (.cells l.toArray t)

def notDefer (o : Oper) : Bool := match o.op with
  | .defer _ => false
  | _ => true
theorem notDefer_spec {o : Oper} (h : notDefer o = true) (c : Call) : o.op ≠ .defer c := fun e => by unfold notDefer at h; rw [e] at h; cases h

/-- The operation that comes up, if it is wanted, and its temporary is there. -/
def opAt (ops : Array Oper) (E : Env) (i : Nat) : Option Oper :=
  match ops.toList[i]? with
  | some o => match wantedE E ops o, E.okDst o.dst, notDefer o with
    | some true, true, true => some o
    | _, _, _ => none
  | none => none

theorem opAt_spec {ops : Array Oper} {E : Env} {i : Nat} {o : Oper} (h : opAt ops E i = some o) : ops[i]? = some o ∧ wantedE E ops o = some true ∧ E.okDst o.dst = true ∧ ∀ c, o.op ≠ .defer c := by
  unfold opAt at h
  split at h
  · rename_i o' ho
    split at h
    · rename_i h1 h2 h3; cases h; exact ⟨by simpa using ho, h1, h2, notDefer_spec h3⟩
    · cases h
  · cases h

section
variable {Γ : Ctx} {Q : Exit → Act → World → Prop} {E : Env} {A : HProp} {T : Tys} {ops : Array Oper} {i : Nat} {K : Act → World → Prop} {o : Oper}

/-- One operation with one outcome. -/
theorem TOp_one (ho : opAt ops E i = some o) {v : Value} {B : HProp}
    (hop : ∀ a w, E.holds a → Γ.ok w A → ∃ w', ((execOp a.eval o).run Γ.P w = .ok (.value v) w' ∨ (execOp a.eval o).run Γ.P w = .ok .skip w' ∧ v = undef) ∧ Γ.ok w' B)
    (h : TN Γ K (E.put o.dst v) B) : TOp Γ ops Q i K E A :=
  let ⟨h1, h2, h3, hdef⟩ := opAt_spec ho
  TOp_val (ι := Unit) (V := fun _ => v) (B := fun _ => B) h1 h2 h3 hdef (fun a w ha hw => let ⟨w', hr, hk⟩ := hop a w ha hw; ⟨(), w', hr, hk⟩) (fun _ => h)

def stepPure (T : Tys) (ops : Array Oper) (E : Env) (i : Nat) : Option Env :=
  match ops.toList[i]? with
  | some o => match wantedE E ops o with
    | some true => match E.okDst o.dst, notDefer o, pureV T E o with
      | true, true, some v => some (E.put o.dst v)
      | _, _, _ => none
    | some false => match E.okDst o.dst with
      | true => some (E.put o.dst undef)
      | false => none
    | none => none
  | none => none

theorem stepPure_spec {T : Tys} {ops : Array Oper} {E E' : Env} {i : Nat} (h : stepPure T ops E i = some E') : ∃ o, ops[i]? = some o ∧
    ((∃ v, opAt ops E i = some o ∧ pureV T E o = some v ∧ E' = E.put o.dst v) ∨ (wantedE E ops o = some false ∧ E.okDst o.dst = true ∧ E' = E.put o.dst undef)) := by
  unfold stepPure at h
  split at h
  · rename_i o ho
    refine ⟨o, by simpa using ho, ?_⟩
    split at h
    · rename_i hw
      split at h
      · rename_i v hd hn hv
        cases h
        refine .inl ⟨v, ?_, hv, rfl⟩
        unfold opAt
        rw [ho]
        simp only [hw, hd, hn]
      · cases h
    · rename_i hw
      split at h
      · rename_i hd
        cases h
        exact .inr ⟨hw, hd, rfl⟩
      · cases h
    · cases h
  · cases h

def pureRun (T : Tys) (ops : Array Oper) : List Nat → Env → List Nat × Env
  | [], E => ([], E)
  | i :: r, E => match stepPure T ops E i with
    | some E' => pureRun T ops r E'
    | none => (i :: r, E)

theorem TO_step (hT : T.Of Γ.P) {E' : Env} {r : List Nat} (hs : stepPure T ops E i = some E') (k : TO Γ ops Q r E' A) : TO Γ ops Q (i :: r) E A := by
  obtain ⟨o, ho, h⟩ := stepPure_spec hs
  rcases h with ⟨v, h1, h2, rfl⟩ | ⟨h1, h2, rfl⟩
  · exact TO_cons (TOp_one h1 (fun a w ha hw => ⟨w, .inl (pureV_sound hT w ha h2), hw⟩) k)
  · exact TO_cons (TOp_skip ho h1 h2 k)

/-- So many. -/
def pureRunN (T : Tys) (ops : Array Oper) : Nat → List Nat → Env → Option (List Nat × Env)
  | 0, l, E => some (l, E)
  | _ + 1, [], _ => none
  | n + 1, i :: r, E => match stepPure T ops E i with
    | some E' => pureRunN T ops n r E'
    | none => none
theorem TO_puresN (n : Nat) (hT : T.Of Γ.P) {l l' : List Nat} {E E' : Env} (h : pureRunN T ops n l E = some (l', E')) (k : TO Γ ops Q l' E' A) : TO Γ ops Q l E A := by
  induction n generalizing l E with
  | zero => cases h; exact k
  | succ n ih =>
    cases l with
    | nil => cases h
    | cons i r =>
      unfold pureRunN at h
      split at h
      · rename_i E1 hs; exact TO_step hT hs (ih h)
      · cases h
end

/-! ### Cells among what is owned -/
/-- The block b is among L: its cells; and L with other cells there. -/
class Find (b : Nat) (L : List HProp) (t : outParam TypeId) (l : outParam (List Value)) (up : outParam (List Value → List HProp)) : Prop where
  out : ∃ R, sep L = star (cel b t l) R ∧ ∀ l', sep (up l') = star (cel b t l') R

instance Find.here {b : Nat} {t : TypeId} {l : List Value} {L : List HProp} : Find b (cel b t l :: L) t l (fun l' => cel b t l' :: L) := ⟨⟨sep L, rfl, fun _ => rfl⟩⟩
instance (priority := low) Find.there {b : Nat} {A : HProp} {t : TypeId} {l : List Value} {L : List HProp} {up : List Value → List HProp} [h : Find b L t l up] :
    Find b (A :: L) t l (fun l' => A :: up l') := ⟨by
  obtain ⟨R, h1, h2⟩ := h.out
  refine ⟨star A R, ?_, fun l' => ?_⟩
  · show star A (sep L) = _; rw [h1, star_left_comm]
  · show star A (sep (up l')) = _; rw [h2, star_left_comm]⟩

instance Find.left {b : Nat} {t : TypeId} {l : List Value} {L M : List HProp} {up : List Value → List HProp} [h : Find b L t l up] : Find b (L ++ M) t l (fun l' => up l' ++ M) := ⟨by
  obtain ⟨R, h1, h2⟩ := h.out
  refine ⟨star R (sep M), ?_, fun l' => ?_⟩
  · rw [sep_append, h1, star_assoc]
  · rw [sep_append, h2, star_assoc]⟩
instance (priority := low) Find.right {b : Nat} {t : TypeId} {l : List Value} {L M : List HProp} {up : List Value → List HProp} [h : Find b M t l up] : Find b (L ++ M) t l (fun l' => L ++ up l') := ⟨by
  obtain ⟨R, h1, h2⟩ := h.out
  refine ⟨star (sep L) R, ?_, fun l' => ?_⟩
  · rw [sep_append, h1, star_left_comm]
  · rw [sep_append, h2, star_left_comm]⟩

/-- What a load yields. -/
def loadL (y : Ty) (l : List Value) (i : Nat) : Option Value :=
  match aggTy y.ud with
  | true => match Nat.ble (i + y.size) l.length with
    | true => some (.agg (sliceL l i y.size).toArray)
    | false => none
  | false => l[i]?

theorem Addr.add_none (b i j : Nat) : (⟨b, i, none⟩ : Addr).add j = ⟨b, i + j, none⟩ := by unfold Addr.add; split <;> simp_all

theorem run_loadCells_row {P : Program} {w : World} {b i n : Nat} {cs : Array Value} {t : TypeId} {fr : Nat × Nat} (h : w.heap[b]? = some (.cells cs t fr)) (hn : i + n ≤ cs.size) :
    (loadCells ⟨b, i, none⟩ n).run P w = .ok (sliceL cs.toList i n).toArray w := by
  have hl : (sliceL cs.toList i n).length = n := by simp [sliceL]; omega
  have := run_loadCells_list (P := P) w ⟨b, i, none⟩ (sliceL cs.toList i n) (fun j v hv => by
    rw [Addr.add_none, cell_of_row w b _ cs t fr h]
    unfold sliceL at hv
    rw [List.getElem?_take] at hv
    split at hv
    · rw [List.getElem?_drop] at hv; simpa using hv
    · cases hv)
  rwa [hl] at this

theorem run_loadVar {P : Program} {w : World} {b i : Nat} {cs : Array Value} {t ty : TypeId} {fr : Nat × Nat} {y : Ty} {v : Value} (h : w.heap[b]? = some (.cells cs t fr)) (hy : Ty.fits P ty y)
    (hv : loadL y cs.toList i = some v) : (loadVar ty ⟨b, i, none⟩).run P w = .ok v w := by
  unfold loadL at hv
  unfold loadVar isAgg
  simp only [Sem.run_bind, hy.run_underlying, Result.andThen_ok]
  split at hv
  · rename_i hd
    split at hv
    · rename_i hb
      cases hv
      have hb' : i + y.size ≤ cs.size := by simpa using Nat.le_of_ble_eq_true hb
      have hl := run_loadCells_row (P := P) h hb'
      unfold aggTy at hd
      split at hd <;> first
        | (rename_i he; rw [he]; simp [hy.run_sizeOf, hl]; done)
        | cases hd
    · cases hv
  · rename_i hd
    have hc : w.cell? ⟨b, i, none⟩ = some v := by rw [cell_of_row w b i cs t fr h]; simpa using hv
    cases hu : y.ud <;> simp only [hu, aggTy] at hd <;> first
      | (simp [hc]; done)
      | cases hd

def isCell (v : Value) : Bool := match v with
  | .agg _ => false
  | .tuple _ => false
  | _ => true

/-- The world in which a block is another one. -/
structure Turned (w w' : World) (b : Nat) (o : Obj) : Prop where
  at_ : w'.heap[b]? = some o
  rest : ∀ k, k ≠ b → w'.heap[k]? = w.heap[k]?
  size : w'.heap.size = w.heap.size
  os : w'.os = w.os
  output : w'.output = w.output

theorem Turned.ok {Γ : Ctx} {w w' : World} {b : Nat} {o o' : Obj} {A : HProp} (h : Turned w w' b o') (hk : Γ.ok w (star (pt b o) A)) : Γ.ok w' (star (pt b o') A) :=
  ⟨by
    have h1 := hk.1
    rw [star_assoc] at h1 ⊢
    exact h1.set h.at_ h.rest, ⟨h.os.trans hk.2.os, h.output.trans hk.2.output, by rw [h.size]; exact hk.2.size⟩⟩

theorem run_storeCells {P : Program} {b : Nat} {t : TypeId} : ∀ (vs l : List Value) (i j : Nat) (w : World), w.heap[b]? = some (.cells l.toArray t) → i + j + vs.length ≤ l.length → vs.all isCell = true →
    ∃ w', (storeCells ⟨b, i, none⟩ vs j).run P w = .ok () w' ∧ Turned w w' b (.cells (setAll l (i + j) vs).toArray t)
  | [], l, i, j, w, h, _, _ => ⟨w, by simp [storeCells], h, fun _ _ => rfl, rfl, rfl, rfl⟩
  | v :: vs, l, i, j, w, h, hl, hc => by
    simp only [List.all_cons, Bool.and_eq_true] at hc
    simp only [List.length_cons] at hl
    have hcell : w.cell? ⟨b, i + j, none⟩ = some (l[i + j]'(by omega)) := by
      rw [cell_of_row w b _ _ t _ h]; simp
    have hfr : w.frozen? ⟨b, i + j, none⟩ = false := frozen_of_row w b _ _ t h
    have hset : (w.setCell ⟨b, i + j, none⟩ v).heap[b]? = some (.cells (l.set (i + j) v).toArray t) := by
      rw [heap_setCell_same w b (i + j) l.toArray t v h]; simp
    have hst : (store ⟨b, i + j, none⟩ v).run P w = .ok () (w.setCell ⟨b, i + j, none⟩ v) := by
      cases v <;> first
        | (simp [store, Sem.run, hcell, hfr]; done)
        | (exact absurd hc.1 (by simp [isCell]))
    obtain ⟨w', h1, h2⟩ := run_storeCells (P := P) vs (l.set (i + j) v) i (j + 1) (w.setCell ⟨b, i + j, none⟩ v) hset (by simp; omega) hc.2
    refine ⟨w', ?_, ?_⟩
    · simp only [storeCells, Sem.run_bind, Addr.add_none, hst, Result.andThen_ok, h1]
    · refine ⟨h2.at_, fun k hk => ?_, by rw [h2.size]; simp [World.setCell], by rw [h2.os]; rfl, by rw [h2.output]; rfl⟩
      rw [h2.rest k hk]
      exact heap_setCell_other w ⟨b, i + j, none⟩ k v hk

theorem run_storeVar {P : Program} {w : World} {b i : Nat} {l : List Value} {t ty : TypeId} {y : Ty} {v : Value} (h : w.heap[b]? = some (.cells l.toArray t)) (hy : Ty.fits P ty y)
    (hs : (cellsL v).length = y.size) (hl : i + y.size ≤ l.length) (hc : (cellsL v).all isCell = true) :
    ∃ w', (storeVar ty ⟨b, i, none⟩ v).run P w = .ok () w' ∧ Turned w w' b (.cells (setAll l i (cellsL v)).toArray t) := by
  obtain ⟨w', h1, h2⟩ := run_storeCells (P := P) (cellsL v) l i 0 w h (by omega) hc
  refine ⟨w', ?_, h2⟩
  have hsz : v.cells.size = y.size := by rw [← hs, ← cellsL_eq]; simp
  unfold storeVar
  simp [hy.run_sizeOf, hsz, cellsL_eq, h1]

section
variable {Γ : Ctx} {Q : Exit → Act → World → Prop} {E : Env} {T : Tys} {ops : Array Oper} {i : Nat} {K : Act → World → Prop} {o : Oper} {L : List HProp}

theorem ok_find {b : Nat} {t : TypeId} {l : List Value} {up : List Value → List HProp} {w : World} [h : Find b L t l up] (hk : Γ.ok w (sep L)) : w.heap[b]? = some (.cells l.toArray t) := by
  obtain ⟨R, h1, _⟩ := h.out
  have := hk.1
  rw [h1, star_assoc] at this
  exact this.pt

/-- In every world of a class the operation yields v, and leaves the world alone. -/
def Exact (Γ : Ctx) (D : World → Prop) (o : Oper) (E : Env) (v : Value) : Prop :=
  ∀ a w, E.holds a → D w → (execOp a.eval o).run Γ.P w = .ok (.value v) w

/-- What is so of the heap in every world of a class. -/
def Lies (D : World → Prop) (b : Nat) (ob : Obj) : Prop := ∀ w, D w → w.heap[b]? = some ob

theorem lies_find {b : Nat} {t : TypeId} {l : List Value} {up : List Value → List HProp} [Find b L t l up] : Lies (fun w => Γ.ok w (sep L)) b (.cells l.toArray t) := fun _ hk => ok_find hk
theorem lies_read {A : HProp} {b : Nat} {ob : Obj} (hS : Γ.S b = some ob) : Lies (fun w => Γ.ok w A) b ob := fun w hk => by
  have := hk.1
  rw [star_left_comm] at this
  exact this.own hS

theorem TOp_exact {A : HProp} {v : Value} (ho : opAt ops E i = some o) (hx : Exact Γ (fun w => Γ.ok w A) o E v) (h : TN Γ K (E.put o.dst v) A) : TOp Γ ops Q i K E A :=
  TOp_one ho (fun a w ha hk => ⟨w, .inl (hx a w ha hk), hk⟩) h

theorem Ex_pure (hT : T.Of Γ.P) {D : World → Prop} {v : Value} (hv : pureV T E o = some v) : Exact Γ D o E v := fun _ w ha _ => pureV_sound hT w ha hv

theorem Ex_load (hT : T.Of Γ.P) {D : World → Prop} {t : TypeId} {x : Operand} (hop : o.op = .load t x) {b n : Nat} (hx : E.get x = some (.pointer (some ⟨b, n, none⟩)))
    {y : Ty} (hy : T.get t = some y) {tt : TypeId} {cs : Array Value} {fr : Nat × Nat} (hb : Lies D b (.cells cs tt fr)) {v : Value} (hv : loadL y cs.toList n = some v) : Exact Γ D o E v := fun a w ha hk => by
  unfold execOp
  rw [hop]
  simp [Instr.loadAt, Env.get_eval ha hx, Instr.sureAddr, run_loadVar (hb w hk) (hT.fits hy) hv]

theorem Ex_index (hT : T.Of Γ.P) {D : World → Prop} {t : TypeId} {x u : Operand} (hop : o.op = .indexAddr t x u) {b n len cap : Nat} (hx : E.get x = some (.slice (some ⟨b, n, none⟩) len cap))
    {k : IntKind} {j : Int} (hu : E.get u = some (.int k j)) {e : TypeId} {s1 s2 : Nat} {z : Value} (hy : T.get t = some ⟨.slice e, s1, s2, z⟩) {ye : Ty} (he : T.get e = some ye)
    (hj : 0 ≤ j ∧ j < len) : Exact Γ D o E (.pointer (some ⟨b, n + j.toNat * ye.size, none⟩)) := fun a w ha _ => by
  unfold execOp
  rw [hop]
  simp [Instr.indexAt, Env.get_eval ha hx, Env.get_eval ha hu, asIntOf, (hT.fits hy).run_underlying, hj, (hT.fits he).run_sizeOf, Addr.add_none]

/-- The element m, elements of one cell. -/
theorem Ex_index1 (hT : T.Of Γ.P) {D : World → Prop} {t : TypeId} {x u : Operand} (hop : o.op = .indexAddr t x u) {b n len cap : Nat} (hx : E.get x = some (.slice (some ⟨b, n, none⟩) len cap))
    {k : IntKind} {m : Nat} (hu : E.get u = some (.int k (m : Int))) {e : TypeId} {s1 s2 : Nat} {z : Value} (hy : T.get t = some ⟨.slice e, s1, s2, z⟩) {ye : Ty} (he : T.get e = some ye) (h1 : ye.size = 1)
    (hm : m < len) : Exact Γ D o E (.pointer (some ⟨b, n + m, none⟩)) := fun a w ha hw => by
  have := Ex_index (Γ := Γ) hT hop hx hu hy he (D := D) ⟨by omega, by omega⟩ a w ha hw
  rw [this, h1]
  simp

theorem load0 {y : Ty} {l : List Value} {m : Nat} {v : Value} (hy : aggTy y.ud = false) (h : l[m]? = some v) : loadL y l (0 + m) = some v := by
  unfold loadL; rw [hy, Nat.zero_add]; exact h

/-- Division by what is not 0. -/
theorem Ex_quo {D : World → Prop} {t ty : TypeId} {x u : Operand} (hop : o.op = .binOp .quo t x u ty) {k : IntKind} {p q : Int} (hx : E.get x = some (.int k p)) (hu : E.get u = some (.int k q)) (hq : q ≠ 0) :
    Exact Γ D o E (.int k (k.wrap (p.tdiv q))) := fun a w ha _ => by
  unfold execOp
  rw [hop]
  simp [Env.get_eval ha hx, Env.get_eval ha hu, eqGuard, binOp, Op.intDiv, hq]
theorem Ex_rem {D : World → Prop} {t ty : TypeId} {x u : Operand} (hop : o.op = .binOp .rem t x u ty) {k : IntKind} {p q : Int} (hx : E.get x = some (.int k p)) (hu : E.get u = some (.int k q)) (hq : q ≠ 0) :
    Exact Γ D o E (.int k (p.tmod q)) := fun a w ha _ => by
  unfold execOp
  rw [hop]
  simp [Env.get_eval ha hx, Env.get_eval ha hu, eqGuard, binOp, Op.intDiv, hq]
/-- Shifts by what is not below 0. -/
theorem Ex_shl {D : World → Prop} {t ty : TypeId} {x u : Operand} (hop : o.op = .binOp .shl t x u ty) {k k' : IntKind} {p q : Int} (hx : E.get x = some (.int k p)) (hu : E.get u = some (.int k' q)) (hq : 0 ≤ q) :
    Exact Γ D o E (.int k (k.wrap (p * 2 ^ (min q.toNat k.bits)))) := fun a w ha _ => by
  unfold execOp
  rw [hop]
  simp [Env.get_eval ha hx, Env.get_eval ha hu, eqGuard, binOp, Op.shift, show ¬ q < 0 by omega]
theorem Ex_shr {D : World → Prop} {t ty : TypeId} {x u : Operand} (hop : o.op = .binOp .shr t x u ty) {k k' : IntKind} {p q : Int} (hx : E.get x = some (.int k p)) (hu : E.get u = some (.int k' q)) (hq : 0 ≤ q) :
    Exact Γ D o E (.int k (p.fdiv (2 ^ (min q.toNat k.bits)))) := fun a w ha _ => by
  unfold execOp
  rw [hop]
  simp [Env.get_eval ha hx, Env.get_eval ha hu, eqGuard, binOp, Op.shift, show ¬ q < 0 by omega]

/-- A store. -/
theorem TOp_storeP (hT : T.Of Γ.P) (ho : opAt ops E i = some o) {t : TypeId} {x u : Operand} (hop : o.op = .store t x u) {b n : Nat} (hx : E.get x = some (.pointer (some ⟨b, n, none⟩)))
    {v : Value} (hv : E.get u = some v) {y : Ty} (hy : T.get t = some y) {tt : TypeId} {l : List Value} {up : List Value → List HProp} [hf : Find b L tt l up]
    (hs : (cellsL v).length = y.size) (hl : n + y.size ≤ l.length) (hc : (cellsL v).all isCell = true)
    (h : TN Γ K (E.put o.dst undef) (sep (up (setAll l n (cellsL v))))) : TOp Γ ops Q i K E (sep L) :=
  TOp_one ho (fun a w ha hk => by
    have hb := ok_find (b := b) hk
    obtain ⟨w', h1, h2⟩ := run_storeVar hb (hT.fits hy) hs hl hc
    refine ⟨w', .inr ⟨?_, rfl⟩, ?_⟩
    · unfold execOp
      rw [hop]
      simp [Instr.storeAt, Env.get_eval ha hx, Env.get_eval ha hv, Instr.sureAddr, h1]
    · obtain ⟨R, e1, e2⟩ := hf.out
      rw [e1] at hk
      rw [e2]
      exact h2.ok hk) h

theorem TOp_store (hT : T.Of Γ.P) (ho : opAt ops E i = some o) {t : TypeId} {x u : Operand} (hop : o.op = .store t x u) {b n : Nat} (hx : E.get x = some (.pointer (some ⟨b, n, none⟩)))
    {v : Value} (hv : E.get u = some v) {y : Ty} (hy : T.get t = some y) {tt : TypeId} {l : List Value} {up : List Value → List HProp} [hf : Find b L tt l up]
    (hs : Nat.beq (cellsL v).length y.size = true) (hl : Nat.ble (n + y.size) l.length = true) (hc : (cellsL v).all isCell = true)
    (h : TN Γ K (E.put o.dst undef) (sep (up (setAll l n (cellsL v))))) : TOp Γ ops Q i K E (sep L) :=
  TOp_storeP hT ho hop hx hv hy (Nat.eq_of_beq_eq_true hs) (Nat.le_of_ble_eq_true hl) hc h

theorem alloc_old (w : World) (ob : Obj) {k : Nat} (h : k < w.heap.size) : (w.alloc ob).heap[k]? = w.heap[k]? := by
  show (w.heap.push ob)[k]? = w.heap[k]?
  rw [Array.getElem?_push]
  rw [if_neg (by omega)]

theorem ok_new {w : World} {A : HProp} {ob : Obj} (hk : Γ.ok w A) : Γ.ok (w.alloc ob) (star (pt w.heap.size ob) A) :=
  ⟨by
    rw [star_assoc]
    refine hk.1.new (w' := w.alloc ob) (fun _ hlt => alloc_old w ob hlt) (heap_alloc_new w ob), ⟨hk.2.os, hk.2.output, Nat.le_trans hk.2.size (by simp)⟩⟩

theorem TOp_new (ho : opAt ops E i = some o) {V : Nat → Value} {ob : Obj} {A : HProp}
    (hop : ∀ a w, E.holds a → Γ.ok w A → (execOp a.eval o).run Γ.P w = .ok (.value (V w.heap.size)) (w.alloc ob))
    (h : ∀ b, TN Γ K (E.put o.dst (V b)) (star (pt b ob) A)) : TOp Γ ops Q i K E A :=
  let ⟨h1, h2, h3, hdef⟩ := opAt_spec ho
  TOp_val (ι := Nat) (V := V) (B := fun b => star (pt b ob) A) h1 h2 h3 hdef (fun a w ha hw => ⟨w.heap.size, _, .inl (hop a w ha hw), ok_new hw⟩) h

theorem newVar_run {P : Program} {w : World} (t : TypeId) (v : Value) : (newVar t v).run P w = .ok ⟨w.heap.size, 0, none⟩ (w.alloc (.cells (cellsL v).toArray t)) := by
  unfold newVar newRow
  simp [newObj, Sem.run, ← cellsL_eq]

/-- A new variable, zero. -/
theorem TOp_alloc (hT : T.Of Γ.P) (ho : opAt ops E i = some o) {t : TypeId} (hop : o.op = .alloc t) {y : Ty} (hy : T.get t = some y)
    (h : ∀ b, TN Γ K (E.put o.dst (.pointer (some ⟨b, 0, none⟩))) (sep (cel b t (cellsL y.zero) :: L))) : TOp Γ ops Q i K E (sep L) :=
  TOp_new ho (fun a w ha hk => by
    unfold execOp
    rw [hop]
    simp [Instr.alloc, (hT.fits hy).run_zeroValue, newVar_run]) h

/-- A new variable with a value. -/
theorem TOp_box (ho : opAt ops E i = some o) {t : TypeId} {x : Operand} (hop : o.op = .box t x) {v : Value} (hv : E.get x = some v)
    (h : ∀ b, TN Γ K (E.put o.dst (.pointer (some ⟨b, 0, none⟩))) (sep (cel b t (cellsL v) :: L))) : TOp Γ ops Q i K E (sep L) :=
  TOp_new ho (fun a w ha hk => by
    unfold execOp
    rw [hop]
    simp [Instr.box, Env.get_eval ha hv, newVar_run]) h

/-! ### The end of a function -/
/-- The results, by the slots or the cells in which they are. -/
def ResOK (T : Tys) (D : World → Prop) (E : Env) : List ResultVar → List Value → Prop
  | [], [] => True
  | .tmp t :: r, v :: vs => look t E.vals = some v ∧ ResOK T D E r vs
  | .cell a t :: r, v :: vs => (∃ b n cs tt fr y, look a E.vals = some (.pointer (some ⟨b, n, none⟩)) ∧ T.get t = some y ∧ Lies D b (.cells cs tt fr) ∧ loadL y cs.toList n = some v) ∧ ResOK T D E r vs
  | _, _ => False

def retV : List Value → Value
  | [v] => v
  | vs => .tuple vs.toArray

def resSem (tmps : Array Value) : ResultVar → Sem Value
  | .tmp t => pure (tmps.getD t undef)
  | .cell p t => do loadVar t (← asAddr (tmps.getD p undef))

theorem run_results {P : Program} {T : Tys} (hT : T.Of P) {D : World → Prop} {E : Env} {a : Act} {w : World} (ha : E.holds a) (hw : D w) : ∀ {rs : List ResultVar} {vs : List Value}, ResOK T D E rs vs →
    (rs.mapM (resSem a.tmps)).run P w = .ok vs w
  | [], [], _ => by simp
  | .tmp t :: r, v :: vs, h => by
    have h1 := ha.2.2 t v h.1
    have h2 : (resSem a.tmps (.tmp t)).run P w = .ok v w := by simp [resSem, h1]
    simp only [List.mapM_cons, Sem.run_bind, h2, Result.andThen_ok, run_results hT ha hw h.2, Sem.run_pure]
  | .cell p t :: r, v :: vs, h => by
    obtain ⟨⟨b, n, cs, tt, fr, y, h1, h2, h3, h4⟩, h5⟩ := h
    have h6 := ha.2.2 p _ h1
    have h7 : (resSem a.tmps (.cell p t)).run P w = .ok v w := by simp [resSem, h6, asAddr, run_loadVar (h3 w hw) (hT.fits h2) h4]
    simp only [List.mapM_cons, Sem.run_bind, h7, Result.andThen_ok, run_results hT ha hw h5, Sem.run_pure]
  | .tmp _ :: _, [], h => h.elim
  | .cell _ _ :: _, [], h => h.elim
  | [], _ :: _, h => h.elim

theorem results_run {P : Program} {T : Tys} (hT : T.Of P) {fn : Func} {D : World → Prop} {E : Env} {a : Act} {w : World} (ha : E.holds a) (hw : D w) {rs : List ResultVar} {vs : List Value} (hr : fn.results.toList = rs)
    (h : ResOK T D E rs vs) : (results fn a.tmps).run P w = .ok (retV vs) w := by
  have h1 := run_results hT ha hw h
  have e : results fn a.tmps = (do
      let vs ← fn.results.mapM (resSem a.tmps)
      pure (if h : vs.size = 1 then vs[0] else .tuple vs)) := by
    unfold results
    congr 1
  rw [e, Array.mapM_eq_mapM_toList, hr]
  simp only [Sem.run_bind, Sem.run_map, h1, Result.andThen_ok, Sem.run_pure]
  congr 1
  cases vs with
  | nil => rfl
  | cons v r =>
    cases r with
    | nil => rfl
    | cons u r => simp [retV]

end
end Go.Sl

/-
  Separation logic over the model's heap, fifth part: regions that draw their order.
  An operation that touches no memory may be taken first, whenever it may come up; one that only reads what the region leaves alone, too, as long as
  the operation N, from which on that need not hold any more, waits for it. All others are taken as they come up: all that may come up, each in turn.
-/
namespace Go.Sl
open Go

def top : HProp := fun _ => True

def tameB (ops : Array Oper) : Bool := ops.toList.all fun o => match o.op with
  | .select .. => false
  | .defer .. => false
  | _ => true
theorem tameB_spec {ops : Array Oper} (h : tameB ops = true) {j : Nat} {o : Oper} (ho : ops[j]? = some o) : (∀ cs b, o.op ≠ .select cs b) ∧ ∀ c, o.op ≠ .defer c := by
  have := List.all_eq_true.1 h o (by
    rw [Array.mem_toList_iff]
    exact Array.mem_of_getElem? ho)
  refine ⟨fun cs b e => ?_, fun c e => ?_⟩ <;> simp [e] at this

def NoPanic (Q : Exit → Act → World → Prop) : Prop := ∀ c a w, Q (.panic c) a w → False

section
variable {Γ : Ctx} {Q : Exit → Act → World → Prop} {ops : Array Oper} {C : World → Prop} {N : Nat}

/-- Whatever order is picked from here on; C holds behind each operation ahead of N. -/
def wpC (Γ : Ctx) (ops : Array Oper) (Q : Exit → Act → World → Prop) (C : World → Prop) (N : Nat) : Nat → Array Bool → Act → World → Prop
  | 0, listed, a, w => Region.ready .any ops listed = [] ∧ Q .normal a w
  | fuel + 1, listed, a, w => (Region.ready .any ops listed = [] → Q .normal a w) ∧
    ∀ j ∈ Region.ready .any ops listed, wpOpIn Γ.F 0 Γ.P ops Q j (fun a' w' => (j < N → C w → C w') ∧ wpC Γ ops Q C N fuel (listed.setIfInBounds j true) a' w') a w

theorem wpAny_of_C : ∀ (fuel : Nat) (listed : Array Bool) (a : Act) (w : World), wpC Γ ops Q C N fuel listed a w → wpAnyIn Γ.F 0 Γ.P .any ops Q fuel listed a w
  | 0, _, _, _, h => h
  | fuel + 1, _, _, _, h => ⟨h.1, fun j hj => wpOpIn_mono (fun a' w' h' => wpAny_of_C fuel _ a' w' h'.2) (h.2 j hj)⟩

/-- In state a, in every world of a class D, the operation yields v, and leaves the world alone. -/
def YieldsD (Γ : Ctx) (ops : Array Oper) (D : World → Prop) (o : Oper) (v : Value) (a : Act) : Prop :=
  (Region.wanted o (yielded ops a.tmps) = true ∧ ∀ w, D w → (execOp a.eval o).run Γ.P w = .ok (.value v) w) ∨ (Region.wanted o (yielded ops a.tmps) = false ∧ v = undef)

theorem YieldsD.op {D : World → Prop} {i : Nat} {o : Oper} {v : Value} {a : Act} (hdef : ∀ c, o.op ≠ .defer c) (hi : ops[i]? = some o) (hy : YieldsD Γ ops D o v a) {K : Act → World → Prop} {w : World}
    (hw : D w) (h : K (a.put o.dst v) w) : wpOpIn Γ.F 0 Γ.P ops Q i K a w := by
  unfold Go.wpOpIn
  simp only [hi]
  rcases hy with ⟨hw', hv⟩ | ⟨hw', rfl⟩
  · simp only [hw', if_true, Oper.wpIn]
    rw [Oper.semAt_eq _ _ _ hdef, hv w hw]
    exact ⟨fun f _ => Γ.fn f, h⟩
  · simp only [hw', Bool.false_eq_true, if_false]; exact ⟨fun f _ => Γ.fn f, h⟩

theorem opIn_put {D : World → Prop} {j : Nat} {oi oj : Oper} {v : Value} (hj : ops[j]? = some oj) (hap : oi.apart ops oj = true)
    (ti : (∀ cs b, oi.op ≠ .select cs b) ∧ ∀ c, oi.op ≠ .defer c) (tj : (∀ cs b, oj.op ≠ .select cs b) ∧ ∀ c, oj.op ≠ .defer c)
    (hQ : NoPanic Q) {K : Act → World → Prop} {a : Act} {w : World}
    (hy : YieldsD Γ ops D oi v a) (h : wpOpIn Γ.F 0 Γ.P ops Q j K (a.put oi.dst v) w) :
    wpOpIn Γ.F 0 Γ.P ops Q j (fun a' w' => YieldsD Γ ops D oi v a' ∧ K (a'.put oi.dst v) w') a w := by
  obtain ⟨h1, h2, h3⟩ := Oper.apart_spec hap
  have keep : ∀ u, YieldsD Γ ops D oi v (a.put oj.dst u) := fun u => by
    unfold YieldsD at *
    rw [execOp_put oi ti.1 a oj.dst u h3, wanted_put oi a oj.dst u h3]
    exact hy
  unfold wpOpIn at *
  simp only [hj] at *
  rw [wanted_put oj a oi.dst v h1] at h
  split
  · rename_i hw
    simp only [hw, if_true] at h
    unfold Oper.wpIn at *
    refine ⟨fun f _ => Γ.fn f, ?_⟩
    have h := h.2
    rw [Oper.semAt_eq _ _ _ tj.2, execOp_put oj tj.1 a oi.dst v h1] at h
    rw [Oper.semAt_eq _ _ _ tj.2]
    generalize (execOp a.eval oj).run Γ.P w = r at *
    cases r with
    | ok x w' =>
      cases x <;> simp only [Oper.uponIn] at h ⊢
      case value u => exact ⟨keep u, by rw [← Act.put_comm a v u h2]; exact h⟩
      case skip => exact ⟨keep _, by rw [← Act.put_comm a v undef h2]; exact h⟩
      case defer d =>
        refine ⟨?_, ?_⟩
        · have := keep undef
          unfold YieldsD at *
          cases hd : oj.dst <;> (rw [hd] at this; exact this)
        · rw [← Act.put_comm _ v undef h2, ← Act.put_defers]
          exact h
      case enter f args =>
        refine ⟨h.1, CallsIn.mono h.2 fun e w'' he => ?_⟩
        cases e with
        | returned u => exact ⟨keep u, by rw [← Act.put_comm a v u h2]; exact he⟩
        | panicked c => exact (hQ _ _ _ he).elim
        | outgrown => exact he
      case row row args => exact ⟨h.1, RowsIn.mono h.2 fun u w'' he => ⟨keep u, by rw [← Act.put_comm a v u h2]; exact he⟩⟩
      case round l f tmps assign body =>
        refine ⟨h.1, RoundIn.mono h.2 fun e w'' he => ?_⟩
        cases e with
        | returned u => exact ⟨keep u, by rw [← Act.put_comm a v u h2]; exact he⟩
        | panicked c => exact (hQ _ _ _ he).elim
        | outgrown => exact he
    | halt x w' =>
      cases x <;> simp only [Oper.uponIn] at h ⊢
      case panic u => exact (hQ _ _ _ h).elim
  · rename_i hw
    simp only [hw] at h
    exact ⟨fun f _ => Γ.fn f, keep _, by rw [← Act.put_comm a v undef h2]; exact h.2⟩

theorem not_on {i j : Nat} {listed : Array Bool} {oj : Oper} (hj : j ∈ Region.ready .any ops listed) (hoj : ops[j]? = some oj) (hr : i ∈ Region.ready .any ops listed) :
    ∀ e ∈ oj.after, Region.binds .any e = true → e.on ≠ i := fun e he hb heq => by
  obtain ⟨_, o', ho', hall⟩ := mem_ready.1 hj
  have : o' = oj := Option.some.inj (ho'.symm.trans hoj)
  subst this
  have h1 := hall e he hb
  have h0 := (mem_ready.1 hr).1
  rw [heq] at h1
  rcases Nat.lt_or_ge i listed.size with h' | h'
  · simp [h'] at h0 h1; rw [h0] at h1; cases h1
  · simp [Array.getElem?_eq_none h'] at h1

/-- An operation that yields its value in every world of a class that the others keep may be taken first. -/
theorem wpC_first (ht : tameB ops = true) (hQ : NoPanic Q) {i : Nat} {oi : Oper} {v : Value} (hi : ops[i]? = some oi) {D : World → Prop} {Inv : Array Bool → Prop}
    (hinv : ∀ listed j, Inv listed → i ∈ Region.ready .any ops listed → j ∈ Region.ready .any ops listed → j ≠ i → Inv (listed.setIfInBounds j true) ∧ ∀ w w' : World, (j < N → C w → C w') → D w → D w') :
    ∀ (fuel : Nat) (listed : Array Bool) (a : Act) (w : World), Inv listed → D w →
      (∀ j oj, ops[j]? = some oj → j ≠ i → listed.getD j true = false → (∀ e ∈ oj.after, Region.binds .any e = true → e.on ≠ i) → oi.apart ops oj = true) →
      i ∈ Region.ready .any ops listed → YieldsD Γ ops D oi v a →
      wpC Γ ops Q C N fuel (listed.setIfInBounds i true) (a.put oi.dst v) w → wpC Γ ops Q C N (fuel + 1) listed a w := by
  intro fuel
  induction fuel with
  | zero =>
    intro listed a w _ hd _ hr hy H
    refine ⟨fun h => (by rw [h] at hr; cases hr), fun j hj => ?_⟩
    by_cases hji : j = i
    · subst hji; exact hy.op (tameB_spec ht hi).2 hi hd ⟨fun _ h => h, H⟩
    · have := ready_mono hj hji
      rw [H.1] at this
      cases this
  | succ fuel ih =>
    intro listed a w hv hd hfree hr hy H
    refine ⟨fun h => (by rw [h] at hr; cases hr), fun j hj => ?_⟩
    by_cases hji : j = i
    · subst hji; exact hy.op (tameB_spec ht hi).2 hi hd ⟨fun _ h => h, H⟩
    · have h1 := H.2 j (ready_mono hj hji)
      obtain ⟨hjun, oj, hoj, _⟩ := mem_ready.1 hj
      have h2 := opIn_put hoj (hfree j oj hoj hji hjun (not_on hj hoj hr)) (tameB_spec ht hi) (tameB_spec ht hoj) hQ hy h1
      obtain ⟨hv', hd'⟩ := hinv listed j hv hr hj hji
      refine wpOpIn_mono (fun a' w' h3 => ⟨h3.2.1, ih (listed.setIfInBounds j true) a' w' hv' (hd' w w' h3.2.1 hd) ?_ (ready_mono hr (Ne.symm hji)) h3.1 ?_⟩) h2
      · intro k ok hk hki hun hno
        refine hfree k ok hk hki ?_ hno
        by_cases hjk : j = k
        · subst hjk; exact hjun
        · rw [getD_set_ne true hjk] at hun; exact hun
      · rw [Array.setIfInBounds_comm _ _ hji]
        exact h3.2.2

def headB (ops : Array Oper) (N : Nat) : Bool := decide (N = ops.size) || (decide (N < ops.size) && Region.sinkB .any ops N && Region.chainB .any ops N)
def headInvB (ops : Array Oper) (N : Nat) (listed : Array Bool) : Bool :=
  decide (listed.size = ops.size) && ((List.range ops.size).all fun j => !(listed.getD j false) || match ops[j]? with
    | some oj => oj.after.all fun e => !(Region.binds .any e) || listed.getD e.on false
    | none => true) && (List.range ops.size).all fun t => decide (t < N) || !(listed.getD t true)
theorem headInv_of {ops : Array Oper} {N : Nat} {listed : Array Bool} (h : headInvB ops N listed = true) : HeadInv .any ops N listed := by
  simp only [headInvB, Bool.and_eq_true, decide_eq_true_eq, List.all_eq_true, List.mem_range, Bool.or_eq_true, Bool.not_eq_true'] at h
  obtain ⟨⟨h1, h2⟩, h3⟩ := h
  refine ⟨h1, fun j oj hj hl e he hb => ?_, fun t ht ht' => ?_⟩
  · have := h2 j (Array.getElem?_eq_some_iff.1 hj).1
    rw [hl, hj] at this
    simp only [Bool.true_eq_false, false_or] at this
    have := Array.all_eq_true'.1 this e he
    simpa [hb] using this
  · rcases h3 t ht' with h | h
    · omega
    · exact h
theorem ready_low {ops : Array Oper} {N i j : Nat} {listed : Array Bool} (hh : headB ops N = true) (inv : HeadInv .any ops N listed) (hiN : i < N) (hi : i ∈ Region.ready .any ops listed)
    (hj : j ∈ Region.ready .any ops listed) : j < N := by
  simp only [headB, Bool.or_eq_true, decide_eq_true_eq, Bool.and_eq_true] at hh
  rcases hh with rfl | ⟨⟨h1, h2⟩, h3⟩
  · obtain ⟨_, oj, hoj, _⟩ := mem_ready.1 hj
    exact (Array.getElem?_eq_some_iff.1 hoj).1
  · rcases Nat.lt_or_ge j N with h | h
    · exact h
    · exact absurd hj (tail_waits h2 h3 h1 inv (N - i) i rfl hiN (mem_ready.1 hi).1 j h)

/-- The class of worlds that a region keeps up to N. -/
def keepC (Γ : Ctx) (I : HProp) : World → Prop := fun w => Γ.ok w (star I top)

abbrev TA (Γ : Ctx) (ops : Array Oper) (Q : Exit → Act → World → Prop) (I : HProp) (N fuel : Nat) (listed : Array Bool) (E : Env) (A : HProp) : Prop :=
  TN Γ (wpC Γ ops Q (keepC Γ I) N fuel listed) E A

variable {E : Env} {A I : HProp} {fuel i : Nat} {listed : Array Bool} {o : Oper} {v : Value}

theorem ok_drew {w : World} (h : Γ.ok w A) : Γ.ok { w with drawn := w.drawn + 1 } A := Ctx.ok_heap h rfl rfl rfl

theorem TC_draw {id : Nat} (hm : Γ.P.follows .mixedOrders = true) (I : HProp) (N : Nat) (h : TA Γ ops Q I N ops.size (Array.replicate ops.size false) E A) :
    TC Γ (.region id ops true) Q E A := fun a w ha hw => wpIn_region_any hm (wpAny_of_C _ _ _ _ (h a _ ha (ok_drew hw)))

/-- What is asked of an operation that is taken first, by its number. -/
def firstB (ops : Array Oper) (listed : Array Bool) (i : Nat) : Bool := (Region.ready .any ops listed).contains i && Region.free .any ops listed i

theorem first_spec (hi : ops[i]? = some o) (h : firstB ops listed i = true) : i ∈ Region.ready .any ops listed ∧
    (∀ j oj, ops[j]? = some oj → j ≠ i → listed.getD j true = false → (∀ e ∈ oj.after, Region.binds .any e = true → e.on ≠ i) → o.apart ops oj = true) := by
  simp only [firstB, Bool.and_eq_true] at h
  exact ⟨by simpa using h.1, Region.free_spec hi h.2⟩

theorem keep_find {b : Nat} {t : TypeId} {l : List Value} {up : List Value → List HProp} {LI : List HProp} [h : Find b LI t l up] : Lies (keepC Γ (sep LI)) b (.cells l.toArray t) := fun w hk => by
  obtain ⟨R, h1, _⟩ := h.out
  have := hk.1
  rw [h1, star_assoc, star_assoc] at this
  exact this.pt

/-- Operations that are taken first, one by one, in an order of ours. -/
def wpX (Γ : Ctx) (ops : Array Oper) (D : World → Prop) (K : Act → Prop) : List Nat → Act → Prop
  | [], a => K a
  | i :: r, a => ∃ o v, ops[i]? = some o ∧ YieldsD Γ ops D o v a ∧ wpX Γ ops D K r (a.put o.dst v)
def TR (Γ : Ctx) (ops : Array Oper) (D : World → Prop) (K : Act → Prop) (l : List Nat) (E : Env) : Prop := ∀ a, E.holds a → wpX Γ ops D K l a

def takeAll (listed : Array Bool) : List Nat → Array Bool
  | [] => listed
  | i :: r => takeAll (listed.setIfInBounds i true) r
def orderB (ops : Array Oper) : Array Bool → List Nat → Bool
  | _, [] => true
  | listed, i :: r => firstB ops listed i && orderB ops (listed.setIfInBounds i true) r

theorem TR_exact {D : World → Prop} {K : Act → Prop} {l : List Nat} (ho : opAt ops E i = some o) (hx : Exact Γ D o E v) (h : TR Γ ops D K l (E.put o.dst v)) : TR Γ ops D K (i :: l) E := fun a ha => by
  obtain ⟨h1, h2, h3, _⟩ := opAt_spec ho
  exact ⟨o, v, h1, .inl ⟨wanted_of ha h2, fun w hw => hx a w ha hw⟩, h _ (Env.holds_put ha h3 _)⟩
theorem TR_skip {D : World → Prop} {K : Act → Prop} {l : List Nat} (ho : ops[i]? = some o) (hw : wantedE E ops o = some false) (hd : E.okDst o.dst = true) (h : TR Γ ops D K l (E.put o.dst undef)) : TR Γ ops D K (i :: l) E := fun a ha =>
  ⟨o, undef, ho, .inr ⟨wanted_of ha hw, rfl⟩, h _ (Env.holds_put ha hd _)⟩
theorem TR_step {T : Tys} (hT : T.Of Γ.P) {D : World → Prop} {K : Act → Prop} {E' : Env} {r : List Nat} (hs : stepPure T ops E i = some E') (k : TR Γ ops D K r E') : TR Γ ops D K (i :: r) E := by
  obtain ⟨o, ho, h⟩ := stepPure_spec hs
  rcases h with ⟨v, h1, h2, rfl⟩ | ⟨h1, h2, rfl⟩
  · exact TR_exact h1 (Ex_pure hT h2) k
  · exact TR_skip ho h1 h2 k
theorem TR_puresN (n : Nat) {T : Tys} (hT : T.Of Γ.P) {D : World → Prop} {K : Act → Prop} {l l' : List Nat} {E E' : Env} (h : pureRunN T ops n l E = some (l', E')) (k : TR Γ ops D K l' E') : TR Γ ops D K l E := by
  induction n generalizing l E with
  | zero => cases h; exact k
  | succ n ih =>
    cases l with
    | nil => cases h
    | cons i r =>
      unfold pureRunN at h
      split at h
      · rename_i E1 hs; exact TR_step hT hs (ih h)
      · cases h

/-- Operations that touch no memory are taken first. -/
theorem TA_frees (l : List Nat) (ht : tameB ops = true) (hQ : NoPanic Q) (ho : orderB ops listed l = true)
    (h : TR Γ ops (fun _ => True) (fun a => ∀ w, Γ.ok w A → wpC Γ ops Q (keepC Γ I) N fuel (takeAll listed l) a w) l E) : TA Γ ops Q I N (fuel + l.length) listed E A := fun a w ha hw => by
  have key : ∀ (l : List Nat) (listed : Array Bool) (a : Act), orderB ops listed l = true →
      wpX Γ ops (fun _ => True) (fun a => ∀ w, Γ.ok w A → wpC Γ ops Q (keepC Γ I) N fuel (takeAll listed l) a w) l a → wpC Γ ops Q (keepC Γ I) N (fuel + l.length) listed a w := by
    intro l
    induction l with
    | nil => intro listed a _ h; exact h w hw
    | cons i r ih =>
      rintro listed a ho ⟨o, v, hi, hy, hr⟩
      simp only [orderB, Bool.and_eq_true] at ho
      obtain ⟨h1, h2⟩ := first_spec hi ho.1
      exact wpC_first ht hQ hi (D := fun _ => True) (Inv := fun _ => True) (fun _ _ _ _ _ _ => ⟨trivial, fun _ _ _ _ => trivial⟩) (fuel + r.length) listed a w trivial trivial h2 h1 hy (ih _ _ ho.2 hr)
  exact key l listed a ho (h a ha)

/-- Operations that only read what the region keeps are taken first. -/
theorem TA_reads (l : List Nat) (ht : tameB ops = true) (hQ : NoPanic Q) (ho : orderB ops listed l = true) (hl : l.all (fun i => decide (i < N)) = true) (hh : headB ops N = true) (hi : headInvB ops N listed = true)
    (hA : Ent A (star I top))
    (h : TR Γ ops (keepC Γ I) (fun a => ∀ w, Γ.ok w A → wpC Γ ops Q (keepC Γ I) N fuel (takeAll listed l) a w) l E) : TA Γ ops Q I N (fuel + l.length) listed E A := fun a w ha hw => by
  have key : ∀ (l : List Nat) (listed : Array Bool) (a : Act), orderB ops listed l = true → l.all (fun i => decide (i < N)) = true → HeadInv .any ops N listed →
      wpX Γ ops (keepC Γ I) (fun a => ∀ w, Γ.ok w A → wpC Γ ops Q (keepC Γ I) N fuel (takeAll listed l) a w) l a → wpC Γ ops Q (keepC Γ I) N (fuel + l.length) listed a w := by
    intro l
    induction l with
    | nil => intro listed a _ _ _ h; exact h w hw
    | cons i r ih =>
      rintro listed a ho hl inv ⟨o, v, hi, hy, hr⟩
      simp only [orderB, Bool.and_eq_true] at ho
      simp only [List.all_cons, Bool.and_eq_true, decide_eq_true_eq] at hl
      obtain ⟨h1, h2⟩ := first_spec hi ho.1
      refine wpC_first ht hQ hi (D := keepC Γ I) (Inv := fun listed => HeadInv .any ops N listed) (fun listed j inv hir hjr hne => ?_) (fuel + r.length) listed a w inv (Ctx.ok_mono hw hA) h2 h1 hy (ih _ _ ho.2 hl.2 (inv.set h1 hl.1) hr)
      have hj := ready_low hh inv hl.1 hir hjr
      exact ⟨inv.set hjr hj, fun w w' hc hd => hc hj hd⟩
  exact key l listed a ho hl (headInv_of hi) (h a ha)

/-- On behind them. -/
theorem TR_done {D : World → Prop} {listed' : Array Bool} (h : TA Γ ops Q I N fuel listed' E A) : TR Γ ops D (fun a => ∀ w, Γ.ok w A → wpC Γ ops Q (keepC Γ I) N fuel listed' a w) [] E :=
  fun a ha w hw => h a w ha hw

/-- What is said with more beside it. -/
theorem ent_top (A : HProp) : Ent A (star A Sl.top) := fun h ha => ⟨h, hnil, fun _ => .inr rfl, by funext b; unfold hjoin; cases h b <;> rfl, ha, trivial⟩

/-- Nothing is left. -/
theorem TA_nil (h : TN Γ (Q .normal) E A) (hr : Region.ready .any ops listed = []) : TA Γ ops Q I N fuel listed E A := fun a w ha hw => by
  cases fuel with
  | zero => exact ⟨hr, h a w ha hw⟩
  | succ n => exact ⟨fun _ => h a w ha hw, fun j hj => by rw [hr] at hj; cases hj⟩

/-- What stands behind an operation that is carried out in its turn. -/
abbrev TB (Γ : Ctx) (ops : Array Oper) (Q : Exit → Act → World → Prop) (I : HProp) (N fuel : Nat) (listed : Array Bool) (i : Nat) (E : Env) (A : HProp) : Prop :=
  TN Γ (fun a w => (i < N → keepC Γ I w) ∧ wpC Γ ops Q (keepC Γ I) N fuel (listed.setIfInBounds i true) a w) E A

/-- Just one may come up. -/
theorem TA_one (i : Nat) (hr : Region.ready .any ops listed = [i]) (h : TOp Γ ops Q i (fun a w => (i < N → keepC Γ I w) ∧ wpC Γ ops Q (keepC Γ I) N fuel (listed.setIfInBounds i true) a w) E A) :
    TA Γ ops Q I N (fuel + 1) listed E A := fun a w ha hw => by
  refine ⟨fun h0 => (by rw [hr] at h0; cases h0), fun j hj => ?_⟩
  rw [hr] at hj
  have : j = i := by simpa using hj
  subst this
  exact wpOpIn_mono (fun a' w' h' => ⟨fun hN _ => h'.1 hN, h'.2⟩) (h a w ha hw)
/-- Either of two may come up. -/
theorem TA_two (i k : Nat) (hr : Region.ready .any ops listed = [i, k])
    (h : TOp Γ ops Q i (fun a w => (i < N → keepC Γ I w) ∧ wpC Γ ops Q (keepC Γ I) N fuel (listed.setIfInBounds i true) a w) E A)
    (h' : TOp Γ ops Q k (fun a w => (k < N → keepC Γ I w) ∧ wpC Γ ops Q (keepC Γ I) N fuel (listed.setIfInBounds k true) a w) E A) :
    TA Γ ops Q I N (fuel + 1) listed E A := fun a w ha hw => by
  refine ⟨fun h0 => (by rw [hr] at h0; cases h0), fun j hj => ?_⟩
  rw [hr] at hj
  have : j = i ∨ j = k := by simpa using hj
  rcases this with rfl | rfl
  · exact wpOpIn_mono (fun a' w' h' => ⟨fun hN _ => h'.1 hN, h'.2⟩) (h a w ha hw)
  · exact wpOpIn_mono (fun a' w' h' => ⟨fun hN _ => h'.1 hN, h'.2⟩) (h' a w ha hw)

/-- Behind an operation ahead of N: what the region keeps is there. -/
theorem TB_low (hA : Ent A (star I top)) (h : TA Γ ops Q I N fuel (listed.setIfInBounds i true) E A) : TB Γ ops Q I N fuel listed i E A :=
  fun a w ha hw => ⟨fun _ => Ctx.ok_mono hw hA, h a w ha hw⟩
/-- Behind N, or a later one. -/
theorem TB_high (hi : N ≤ i) (h : TA Γ ops Q I N fuel (listed.setIfInBounds i true) E A) : TB Γ ops Q I N fuel listed i E A :=
  fun a w ha hw => ⟨fun h0 => absurd h0 (by omega), h a w ha hw⟩
end
end Go.Sl

/-
  Separation logic over the model's heap, sixth part: contracts in lists; calls; the end of a function; what is dropped.
-/
namespace Go.Sl
open Go

/-! ### Taking assertions out of a list -/
class Take1 (A : HProp) (L : List HProp) (R : outParam (List HProp)) : Prop where
  out : sep L = star A (sep R)
instance Take1.here {A : HProp} {L : List HProp} : Take1 A (A :: L) L := ⟨rfl⟩
instance (priority := low) Take1.there {A B : HProp} {L R : List HProp} [h : Take1 A L R] : Take1 A (B :: L) (B :: R) := ⟨by
  show star B (sep L) = star A (star B (sep R))
  rw [h.out, star_left_comm]⟩
instance Take1.left {A : HProp} {L M R : List HProp} [h : Take1 A L R] : Take1 A (L ++ M) (R ++ M) := ⟨by rw [sep_append, h.out, star_assoc, ← sep_append]⟩
instance (priority := low) Take1.right {A : HProp} {L M R : List HProp} [h : Take1 A M R] : Take1 A (L ++ M) (L ++ R) := ⟨by rw [sep_append, h.out, star_left_comm, ← sep_append]⟩
class Takes (M L : List HProp) (R : outParam (List HProp)) : Prop where
  out : sep L = star (sep M) (sep R)
instance Takes.nil {L : List HProp} : Takes [] L L := ⟨(emp_star _).symm⟩
instance Takes.cons {A : HProp} {M L R1 R : List HProp} [h1 : Take1 A L R1] [h2 : Takes M R1 R] : Takes (A :: M) L R := ⟨by
  show sep L = star (star A (sep M)) (sep R)
  rw [h1.out, h2.out, star_assoc]⟩

instance Takes.both {M N L R1 R : List HProp} [h1 : Takes M L R1] [h2 : Takes N R1 R] : Takes (M ++ N) L R := ⟨by rw [h1.out, h2.out, ← star_assoc, ← sep_append]⟩

/-- A contract: what it takes; what it returns and leaves, for some x. -/
def FNs (S : Hp) (P : Program) (f : FuncId) (args : Array Value) (Lp : List HProp) {ι : Type} (V : ι → Value) (φ : ι → Prop) (Lq : ι → List HProp) : Prop :=
  FN S P f args (sep Lp) (fun v => Sl.ex fun x => star (Sl.lift (v = V x ∧ φ x)) (sep (Lq x)))

/-- A function that may be called. -/
def Callable (P : Program) (f : FuncId) : Prop := ∃ fn, P.funcs[f]? = some fn ∧ (fn.name == "runtime.NumGoroutine") = false ∧ fn.body.isNone = false

theorem Callable.run {P : Program} {f : FuncId} (h : Callable P f) (args : Array Value) (w : World) : (callFunc f args).run P w = .ok (.enter f args) w := by
  obtain ⟨fn, h1, h2, h3⟩ := h
  unfold callFunc
  simp only [Sem.run_bind]
  have : (program : Sem Program).run P w = .ok P w := rfl
  rw [this]
  simp only [Result.andThen_ok, h1, h2, h3]
  rfl

/-- What a call calls, and with what. -/
def callV (E : Env) (o : Oper) : Option (FuncId × Array Value) :=
  match o.op with
  | .call c => match c.callee with
    | .value x => match E.get x, getAll E c.args.toList with
      | some (.func (.func f) p q), some l => some (f, (p.toList ++ l ++ q.toList).toArray)
      | _, _ => none
    | _ => none
  | _ => none

theorem callV_run {P : Program} {E : Env} {a : Act} (ha : E.holds a) {o : Oper} {f : FuncId} {args : Array Value} (h : callV E o = some (f, args)) (hc : Callable P f) (w : World) :
    (execOp a.eval o).run P w = .ok (.enter f args) w := by
  unfold callV at h
  unfold execOp
  split at h
  · rename_i c ho
    rw [ho]
    split at h
    · rename_i x hx
      split at h
      · rename_i g p q l h1 h2
        cases h
        have e := map_toArray a.eval c.args (getAll_eval ha h2)
        simp only [Sem.run_bind]
        have hr : (resolve a.eval c o.type).run P w = .ok { target := .fn (.func f) q, args := p ++ l.toArray } w := by
          unfold resolve
          simp [hx, Env.get_eval ha h1, e, Deferred.ofValue]
        rw [hr]
        simp only [Result.andThen_ok, invoke]
        rw [hc.run]
        congr 2
        apply Array.ext'
        simp
      · cases h
    · cases h
  · cases h

theorem ent_takes {M L R : List HProp} [h : Takes M L R] : Ent (sep L) (star (sep M) Sl.top) := by
  rw [h.out]; exact Ent.star (.refl _) (fun _ _ => trivial)
section
variable {Γ : Ctx} {Q : Exit → Act → World → Prop} {E : Env} {T : Tys} {ops : Array Oper} {i : Nat} {K : Act → World → Prop} {o : Oper} {L : List HProp}

/-- What isn't needed any more is dropped. -/
theorem TN.drop {A B : HProp} (h : TN Γ K E A) : TN Γ K E (star A B) := fun a w ha hw => h a w ha ⟨by
  obtain ⟨x, hx, p, q, d, e, ⟨p1, p2, d1, e1, ha1, hb1⟩, hq⟩ := hw.1
  subst e1
  refine ⟨hjoin p1 q, fun b ob hb => hx b ob ?_, p1, q, (hdisj_join_left.1 d).1, rfl, ha1, hq⟩
  rw [e]
  rcases hjoin_some hb with h1 | h1
  · exact hjoin_left (hjoin_left h1)
  · exact hjoin_right d h1, hw.2⟩
/-- Just these are kept. -/
theorem TN.keep (M : List HProp) {R : List HProp} [h : Takes M L R] (k : TN Γ K E (sep M)) : TN Γ K E (sep L) := by
  rw [h.out]; exact k.drop

theorem TOp_calls (ho : opAt ops E i = some o) {f : FuncId} {args : Array Value} (hc : callV E o = some (f, args)) (hcl : Callable Γ.P f) {Lp : List HProp} {ι : Type} {V : ι → Value} {φ : ι → Prop} {Lq : ι → List HProp}
    (hf : FNs Γ.S Γ.P f args Lp V φ Lq) {R : List HProp} [ht : Takes Lp L R] (h : ∀ x, φ x → TN Γ K (E.put o.dst (V x)) (sep (Lq x ++ R))) : TOp Γ ops Q i K E (sep L) :=
  let ⟨h1, h2, h3, h4⟩ := opAt_spec ho
  TOp_call h1 h2 h3 h4 (A2 := sep R) (fun _ w ha => callV_run ha hc hcl w) hf (Ent.of_eq ht.out) fun v => by
    refine TN.ex fun x => ?_
    rw [star_assoc]
    refine TN.lift fun hx => ?_
    obtain ⟨rfl, hφ⟩ := hx
    rw [← sep_append]
    exact h x hφ

/-- A function's body. -/
theorem FNs_of_body {S : Hp} {P : Program} {f : FuncId} {fn : Func} {c : Code} {args : Array Value} {Lp : List HProp} {ι : Type} {V : ι → Value} {φ : ι → Prop} {Lq : ι → List HProp}
    (hf : P.funcs[f]? = some fn) (hb : fn.body = some c) {n : Nat} (hn : fn.ntmps = n) (hsz : Nat.ble args.size n = true)
    (h : ∀ R w0, TC { P, S, R, w0 } c (bodyQ P fn S R w0 fun v => Sl.ex fun x => star (Sl.lift (v = V x ∧ φ x)) (sep (Lq x))) ⟨n, [], args.toList.zipIdx.map fun x => (x.2, x.1)⟩ (sep Lp)) :
    FNs S P f args Lp V φ Lq := FN_of_body hf hb hn (Nat.le_of_ble_eq_true hsz) h

/-- A function ends: what it returns and leaves. -/
theorem TN_rets (hT : T.Of Γ.P) {fn : Func} {ι : Type} {V : ι → Value} {φ : ι → Prop} {Lq : ι → List HProp} (x : ι) {e : Exit} (hx : e = .ret ∨ e = .normal) (hd : E.defers = []) {rs : List ResultVar}
    (hr : fn.results.toList = rs) {vs : List Value} (h : ResOK T (fun w => Γ.ok w (sep L)) E rs vs) (hv : retV vs = V x) (hφ : φ x) {R : List HProp} [ht : Takes (Lq x) L R] :
    TN Γ (bodyQ Γ.P fn Γ.S Γ.R Γ.w0 (fun v => Sl.ex fun x => star (Sl.lift (v = V x ∧ φ x)) (sep (Lq x))) e) E (sep L) := fun a w ha hw => by
  have hres := results_run hT (D := fun w => Γ.ok w (sep L)) ha hw hr h
  have hk : TN Γ (fun _ w => Γ.ok w (sep (Lq x))) E (sep L) := TN.keep (Lq x) (fun _ _ _ h => h)
  have hok := hk a w ha hw
  have : BodyEnds Γ.P fn Γ.S Γ.R Γ.w0 (fun v => Sl.ex fun x => star (Sl.lift (v = V x ∧ φ x)) (sep (Lq x))) a w :=
    ⟨ha.2.1.trans hd, retV vs, hres, (Ctx.ok_mono hok (fun y hy => ⟨x, (lift_star _ _ _).2 ⟨⟨hv, hφ⟩, hy⟩⟩)).1, hw.2⟩
  rcases hx with rfl | rfl <;> exact this
end

/-! ### Assertions with names -/
/-- Some x with φ x; these. -/
def Pack {ι : Sort _} (φ : ι → Prop) (L : ι → List HProp) : HProp := Sl.ex fun x => star (Sl.lift (φ x)) (sep (L x))

theorem TN.unpack {Γ : Ctx} {K : Act → World → Prop} {E : Env} {ι : Sort _} {φ : ι → Prop} {L : ι → List HProp} {R : List HProp} (h : ∀ x, φ x → TN Γ K E (sep (L x ++ R))) : TN Γ K E (sep (Pack φ L :: R)) := by
  show TN Γ K E (star (Sl.ex fun x => star (Sl.lift (φ x)) (sep (L x))) (sep R))
  refine TN.ex fun x => ?_
  rw [star_assoc]
  refine TN.lift fun hx => ?_
  rw [← sep_append]
  exact h x hx
theorem TN.pack {Γ : Ctx} {K : Act → World → Prop} {E : Env} {ι : Sort _} {φ : ι → Prop} {L : ι → List HProp} {M R : List HProp} (x : ι) (hx : φ x) [ht : Takes (L x) M R] (h : TN Γ K E (sep (Pack φ L :: R))) : TN Γ K E (sep M) :=
  h.pre fun g hg => by
    rw [ht.out] at hg
    obtain ⟨p, q, d, e, hp, hq⟩ := hg
    exact ⟨p, q, d, e, ⟨x, (lift_star _ _ _).2 ⟨hx, hp⟩⟩, hq⟩
theorem FNs.unpack {S : Hp} {P : Program} {f : FuncId} {args : Array Value} {κ : Sort _} {ψ : κ → Prop} {M : κ → List HProp} {R : List HProp} {ι : Type} {V : ι → Value} {φ : ι → Prop} {Lq : ι → List HProp}
    (h : ∀ x, ψ x → FNs S P f args (M x ++ R) V φ Lq) : FNs S P f args (Pack ψ M :: R) V φ Lq := by
  show FN S P f args (star (Sl.ex fun x => star (Sl.lift (ψ x)) (sep (M x))) (sep R)) _
  rw [ex_star]
  refine FN.ex fun x => ?_
  rw [star_assoc]
  refine FN.lift fun hx => ?_
  rw [← sep_append]
  exact h x hx
theorem TN.fold {Γ : Ctx} {K : Act → World → Prop} {E : Env} (A : HProp) {Lx M R : List HProp} (hA : Ent (sep Lx) A) [ht : Takes Lx M R] (h : TN Γ K E (sep (A :: R))) : TN Γ K E (sep M) :=
  h.pre fun g hg => by
    rw [ht.out] at hg
    obtain ⟨p, q, d, e, hp, hq⟩ := hg
    exact ⟨p, q, d, e, hA p hp, hq⟩
/-- What a list of assertions gives. -/
theorem ent_pack {ι : Sort _} {φ : ι → Prop} {L : ι → List HProp} (x : ι) (hx : φ x) : Ent (sep (L x)) (Pack φ L) := fun _ hg => ⟨x, (lift_star _ _ _).2 ⟨hx, hg⟩⟩

section
variable {Γ : Ctx} {Q : Exit → Act → World → Prop} {E : Env} {T : Tys} {ops : Array Oper} {i : Nat} {K : Act → World → Prop} {o : Oper} {A : HProp}
/-- A truth by which the way parts. -/
theorem TOp_bool (hT : T.Of Γ.P) (ho : opAt ops E i = some o) {b : Bool} (hv : pureV T E o = some (.bool b)) (h1 : b = true → TN Γ K (E.put o.dst (.bool true)) A) (h2 : b = false → TN Γ K (E.put o.dst (.bool false)) A) :
    TOp Γ ops Q i K E A := TOp_exact ho (Ex_pure hT hv) (by
  cases b with
  | true => exact h1 rfl
  | false => exact h2 rfl)
theorem TN_thenr (h : TN Γ (Q .ret) E A) : TN Γ (Exit.then K Q .ret) E A := h
theorem TN_blockr {id : Nat} (h : TN Γ (Q .ret) E A) : TN Γ (Exit.inBlock id Q .ret) E A := h
theorem TN_blockn {id : Nat} (h : TN Γ (Q .normal) E A) : TN Γ (Exit.inBlock id Q .normal) E A := h
theorem TN_thenx {id : Nat} (h : TN Γ (Q (.exit id)) E A) : TN Γ (Exit.then K Q (.exit id)) E A := h
theorem TN_exit {id : Nat} (h : TN Γ (Q .normal) E A) : TN Γ (Exit.inBlock id Q (.exit id)) E A := fun a w ha hw => by
  show (if id = id then Q .normal a w else Q (.exit id) a w)
  rw [if_pos rfl]; exact h a w ha hw
theorem TN_exitx {id id' : Nat} (hne : id' ≠ id) (h : TN Γ (Q (.exit id')) E A) : TN Γ (Exit.inBlock id Q (.exit id')) E A := fun a w ha hw => by
  show (if id' = id then Q .normal a w else Q (.exit id') a w)
  rw [if_neg hne]; exact h a w ha hw
/-- A loop: of some x (φ x) the temporaries and the heap are as said; each round leads to another x of less measure. -/
theorem TC_loopP {Q : Exit → Act → World → Prop} {L : List HProp} {c : Code} {ι : Type} (φ : ι → Prop) (J : ι → Env) (B : ι → List HProp) (μ : ι → Nat) (x : ι) (hx : φ x) (hE : E.le (J x)) {R : List HProp} [ht : Takes (B x) L R]
    (h : ∀ x, φ x → TC Γ c (Exit.then (fun a w => ∃ y, φ y ∧ μ y < μ x ∧ (J y).holds a ∧ Γ.ok w (sep (B y))) Q) (J x) (sep (B x))) : TC Γ (.loop c) Q E (sep L) :=
  TN.keep (B x) (TC_loop (ι := { y // φ y }) (fun y => J y.1) (fun y => sep (B y.1)) (fun y => μ y.1) ⟨x, hx⟩ hE (.refl _) fun y a w ha hw => by
    refine wpIn_mono (h y.1 y.2 a w ha hw) ?_
    intro e a' w' hq
    cases e with
    | normal =>
      obtain ⟨z, h1, h2, h3, h4⟩ := hq
      exact ⟨⟨z, h1⟩, h2, h3, h4⟩
    | _ => exact hq)
theorem TN_againP {Q : Exit → Act → World → Prop} {L : List HProp} {ι : Type} {φ : ι → Prop} {J : ι → Env} {B : ι → List HProp} {μ : ι → Nat} {x : ι} (y : ι) (hy : φ y) (hlt : μ y < μ x) (hE : E.le (J y)) {R : List HProp} [ht : Takes (B y) L R] :
    TN Γ (Exit.then (fun a w => ∃ j, φ j ∧ μ j < μ x ∧ (J j).holds a ∧ Γ.ok w (sep (B j))) Q .normal) E (sep L) :=
  TN.keep (B y) fun _ _ ha hw => ⟨y, hy, hlt, Env.holds_le ha hE, hw⟩
end

/-- Another name for what is the same. -/
theorem FNs.conv {S : Hp} {P : Program} {f : FuncId} {args : Array Value} {Lp : List HProp} {ι κ : Type} {V : ι → Value} {φ : ι → Prop} {Lq : ι → List HProp} {V' : κ → Value} {φ' : κ → Prop} {Lq' : κ → List HProp}
    (h : FNs S P f args Lp V φ Lq) (k : ∀ x, φ x → ∃ y, V x = V' y ∧ φ' y ∧ Ent (sep (Lq x)) (sep (Lq' y))) : FNs S P f args Lp V' φ' Lq' :=
  FN.conseq h (.refl _) fun v hh ⟨x, hx⟩ => by
    obtain ⟨⟨h1, h2⟩, h3⟩ := (lift_star _ _ _).1 hx
    obtain ⟨y, e1, e2, e3⟩ := k x h2
    exact ⟨y, (lift_star _ _ _).2 ⟨⟨h1.trans e1, e2⟩, e3 _ h3⟩⟩
end Go.Sl
