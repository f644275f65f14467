/-
  A part of the proof of the statement about OpNone: laws of what a heap owns, the functions' contracts, in the order in which they call each other: Slice, Row, Field, Field2, Layout, Bitmap.
-/
import Derived.Laws.MakeOwn
import Derived.Deep.AppendSrc
import Derived.Shelf.Spec.TrailingZeros
import Derived.Test.YtjifmcdlbffemaaGreatDoorSlOpNoneA
import Derived.Test.YtjifmcdlbffemaaGreatDoorSlOpNoneB
import Derived.Test.YtjifmcdlbffemaaGreatDoorSlOpNoneC
set_option linter.unusedVariables false
set_option linter.unusedSimpArgs false

/-
  Separation logic over the model's heap: slices: made, cut, appended to, copied.
-/
namespace Go.Sl
open Go

/-- So many zero elements. -/
def zerosL (m : Nat) (y : Ty) : List Value := (madeCells y.zero.cells (m * y.size)).toList

theorem zerosL_length (m : Nat) (y : Ty) : (zerosL m y).length = m * y.size := by
  unfold zerosL; rw [Array.length_toList, size_madeCells]
theorem zerosL_one {m : Nat} {y : Ty} {z : Value} (h1 : y.size = 1) (hz : cellsL y.zero = [z]) : zerosL m y = List.replicate m z := by
  unfold zerosL madeCells
  have hc : y.zero.cells = #[z] := by
    apply Array.ext'
    rw [cellsL_eq, hz]
  rw [h1, hc, Nat.mul_one]
  apply List.ext_getElem?
  intro i
  by_cases hi : i < m
  · simp [hi, Nat.mod_one]
  · simp [hi]

/-- A slice's value, in parts. -/
structure Slc where
  a : Option Addr
  n : Nat
  cap : Nat
abbrev Slc.val (s : Slc) : Value := .slice s.a s.n s.cap

/-- What is told of a slice and its elements' cells. -/
def RowP (s : Slc) (sz : Nat) (xs : List Value) : Option (Nat × List Value × List Value) → Prop
  | none => s = ⟨none, 0, 0⟩ ∧ xs = []
  | some (g, pre, sp) => s.a = some ⟨g, pre.length, none⟩ ∧ xs.length = s.n * sz ∧ s.n ≤ s.cap ∧ s.cap * sz ≤ xs.length + sp.length ∧ xs.all isCell = true
def RowL (t : TypeId) (xs : List Value) : Option (Nat × List Value × List Value) → List HProp
  | none => []
  | some (g, pre, sp) => [cel g t (pre ++ (xs ++ sp))]
/-- A slice that is owned: its elements' cells. -/
def Row (s : Slc) (t : TypeId) (sz : Nat) (xs : List Value) : HProp := Pack (RowP s sz xs) (RowL t xs)

def nilS : Slc := ⟨none, 0, 0⟩
theorem Row.nil (t : TypeId) (sz : Nat) : Ent emp (Row nilS t sz []) := ent_pack (L := RowL t []) none ⟨rfl, rfl⟩
theorem RowP.len {s : Slc} {sz : Nat} {xs : List Value} {x : Option (Nat × List Value × List Value)} (h : RowP s sz xs x) : xs.length = s.n * sz := by
  cases x with
  | none => obtain ⟨rfl, rfl⟩ := h; simp
  | some x => exact h.2.1
theorem RowP.cells {s : Slc} {sz : Nat} {xs : List Value} {x : Option (Nat × List Value × List Value)} (h : RowP s sz xs x) : xs.all isCell = true := by
  cases x with
  | none => obtain ⟨rfl, rfl⟩ := h; rfl
  | some x => exact h.2.2.2.2
theorem Row.of_cel {g t sz n cap : Nat} {xs : List Value} (sp : List Value) (h1 : xs.length = n * sz) (hn : n ≤ cap) (h2 : cap * sz ≤ xs.length + sp.length) (hc : xs.all isCell = true) :
    Ent (cel g t (xs ++ sp)) (Row ⟨some ⟨g, 0, none⟩, n, cap⟩ t sz xs) := fun h hh =>
  ⟨some (g, [], sp), (lift_star _ _ _).2 ⟨⟨rfl, h1, hn, h2, hc⟩, by show star (cel g t (xs ++ sp)) emp h; rw [star_emp]; exact hh⟩⟩

theorem oneCell_of {u : Value} (h : isCell u = true) : u.oneCell' = true := by cases u <;> first | rfl | cases h
theorem isCell_of {xs : List Value} (h : xs.all isCell = true) : ∀ u ∈ xs, u.oneCell' = true := fun u hu => oneCell_of (List.all_eq_true.1 h u hu)

/-- In the list of what is owned a row is found, and its place. -/
theorem setAll_pre : ∀ (vs pre l : List Value) (i : Nat), setAll (pre ++ l) (pre.length + i) vs = pre ++ setAll l i vs
  | [], _, _, _ => rfl
  | v :: vs, pre, l, i => by
    show setAll ((pre ++ l).set (pre.length + i) v) (pre.length + i + 1) vs = pre ++ setAll (l.set i v) (i + 1) vs
    rw [List.set_append_right _ _ (by omega), show pre.length + i - pre.length = i by omega, Nat.add_assoc, setAll_pre vs pre _ (i + 1)]
theorem setAll_post : ∀ (vs l post : List Value) (i : Nat), i + vs.length ≤ l.length → setAll (l ++ post) i vs = setAll l i vs ++ post
  | [], _, _, _, _ => rfl
  | v :: vs, l, post, i, h => by
    simp only [List.length_cons] at h
    show setAll ((l ++ post).set i v) (i + 1) vs = setAll (l.set i v) (i + 1) vs ++ post
    rw [List.set_append_left _ _ (by omega), setAll_post vs (l.set i v) post (i + 1) (by simp; omega)]
theorem setAll_all : ∀ (vs l : List Value), vs.length = l.length → setAll l 0 vs = vs := by
  suffices H : ∀ (vs l pre : List Value), vs.length = l.length → setAll (pre ++ l) pre.length vs = pre ++ vs from fun vs l h => H vs l [] h
  intro vs
  induction vs with
  | nil => intro l pre h; cases l with
    | nil => rfl
    | cons => cases h
  | cons v vs ih =>
    intro l pre h
    cases l with
    | nil => cases h
    | cons x l =>
      have h' : vs.length = l.length := by simpa using h
      show setAll ((pre ++ x :: l).set pre.length v) (pre.length + 1) vs = pre ++ v :: vs
      rw [List.set_append_right _ _ (Nat.le_refl _), Nat.sub_self, List.set_cons_zero]
      have := ih l (pre ++ [v]) h'
      simpa [List.append_assoc] using this
theorem sliceL_pre (pre l : List Value) (i n : Nat) : sliceL (pre ++ l) (pre.length + i) n = sliceL l i n := by
  unfold sliceL
  rw [List.drop_append, List.drop_of_length_le (by omega), List.nil_append, show pre.length + i - pre.length = i by omega]
theorem sliceL_post (l post : List Value) (i n : Nat) (h : i + n ≤ l.length) : sliceL (l ++ post) i n = sliceL l i n := by
  unfold sliceL
  rw [List.drop_append_of_le_length (by omega), List.take_append_of_le_length (by simp; omega)]
/-- What is loaded of a row is loaded of its elements. -/
theorem loadL_row {y : Ty} {pre xs sp : List Value} {i : Nat} {v : Value} (h : loadL y xs i = some v) : loadL y (pre ++ (xs ++ sp)) (pre.length + i) = some v := by
  unfold loadL at *
  split at h
  · rename_i ha
    split at h
    · rename_i hb
      have hb' := Nat.le_of_ble_eq_true hb
      have : Nat.ble (pre.length + i + y.size) (pre ++ (xs ++ sp)).length = true := Nat.ble_eq_true_of_le (by simp; omega)
      simp only [this]
      rw [sliceL_pre, sliceL_post _ _ _ _ hb']
      exact h
    · cases h
  · rename_i ha
    rw [List.getElem?_append_right (by omega), show pre.length + i - pre.length = i by omega, List.getElem?_append_left (List.getElem?_eq_some_iff.1 h).1]
    exact h

/-- The row of a slice is among L. -/
class FindRow (s : Slc) (L : List HProp) (t : outParam TypeId) (sz : outParam Nat) (xs : outParam (List Value)) (R : outParam (List HProp)) : Prop where
  out : sep L = star (Row s t sz xs) (sep R)
instance FindRow.here {s : Slc} {t : TypeId} {sz : Nat} {xs : List Value} {L : List HProp} : FindRow s (Row s t sz xs :: L) t sz xs L := ⟨rfl⟩
instance (priority := low) FindRow.there {s : Slc} {t : TypeId} {sz : Nat} {xs : List Value} {B : HProp} {L R : List HProp} [h : FindRow s L t sz xs R] : FindRow s (B :: L) t sz xs (B :: R) := ⟨by
  show star B (sep L) = star (Row s t sz xs) (star B (sep R))
  rw [h.out, star_left_comm]⟩
instance FindRow.left {s : Slc} {t : TypeId} {sz : Nat} {xs : List Value} {L M R : List HProp} [h : FindRow s L t sz xs R] : FindRow s (L ++ M) t sz xs (R ++ M) := ⟨by rw [sep_append, h.out, star_assoc, ← sep_append]⟩
instance (priority := low) FindRow.right {s : Slc} {t : TypeId} {sz : Nat} {xs : List Value} {L M R : List HProp} [h : FindRow s M t sz xs R] : FindRow s (L ++ M) t sz xs (L ++ R) := ⟨by rw [sep_append, h.out, star_left_comm, ← sep_append]⟩

/-- The block b is among L, and is taken out. -/
class TakeCel (b : Nat) (L : List HProp) (t : outParam TypeId) (l : outParam (List Value)) (R : outParam (List HProp)) : Prop where
  out : sep L = star (cel b t l) (sep R)
instance TakeCel.here {b : Nat} {t : TypeId} {l : List Value} {L : List HProp} : TakeCel b (cel b t l :: L) t l L := ⟨rfl⟩
instance (priority := low) TakeCel.there {b : Nat} {t : TypeId} {l : List Value} {B : HProp} {L R : List HProp} [h : TakeCel b L t l R] : TakeCel b (B :: L) t l (B :: R) := ⟨by
  show star B (sep L) = star (cel b t l) (star B (sep R))
  rw [h.out, star_left_comm]⟩
instance TakeCel.left {b : Nat} {t : TypeId} {l : List Value} {L M R : List HProp} [h : TakeCel b L t l R] : TakeCel b (L ++ M) t l (R ++ M) := ⟨by rw [sep_append, h.out, star_assoc, ← sep_append]⟩
instance (priority := low) TakeCel.right {b : Nat} {t : TypeId} {l : List Value} {L M R : List HProp} [h : TakeCel b M t l R] : TakeCel b (L ++ M) t l (L ++ R) := ⟨by rw [sep_append, h.out, star_left_comm, ← sep_append]⟩

section
variable {Γ : Ctx} {Q : Exit → Act → World → Prop} {E : Env} {T : Tys} {ops : Array Oper} {i : Nat} {K : Act → World → Prop} {o : Oper} {L : List HProp}

/-- make([]T, n, m) -/
theorem TOp_makeSlice (hT : T.Of Γ.P) (ho : opAt ops E i = some o) {t : TypeId} {l c : Operand} (hop : o.op = .makeSlice t l c) {k1 k2 : IntKind} {n m : Nat} (hl : E.get l = some (.int k1 (n : Int))) (hc : E.get c = some (.int k2 (m : Int)))
    {e : TypeId} {s1 s2 : Nat} {z : Value} (hy : T.get t = some ⟨.slice e, s1, s2, z⟩) {ye : Ty} (he : T.get e = some ye) (hnm : n ≤ m) (hm : m < 2 ^ 63) (hb : m * ye.bytes ≤ 281474976710656)
    (h : ∀ b, TN Γ K (E.put o.dst (.slice (some ⟨b, 0, none⟩) n m)) (sep (cel b e (zerosL m ye) :: L))) : TOp Γ ops Q i K E (sep L) :=
  TOp_new (ob := .cells (zerosL m ye).toArray e) ho (fun a w ha hk => by
    unfold execOp
    rw [hop]
    obtain ⟨inf, hinf, hsz, hby, hze⟩ := (hT.fits he).info
    have hbm : (inf.bytes : Int) * (m : Int) ≤ 281474976710656 := by
      have h' : ((m * ye.bytes : Nat) : Int) ≤ ((281474976710656 : Nat) : Int) := Int.ofNat_le.2 hb
      rw [Int.natCast_mul] at h'
      rw [hby, Int.mul_comm]
      exact h'
    have := run_make (P := Γ.P) w t e inf ye.zero (hT.fits hy).ud hinf hze k1 k2 n m (by omega) (by omega) hbm (by omega)
    simp only [Int.toNat_natCast, hsz] at this
    simp only [Env.get_eval ha hl, Env.get_eval ha hc, zerosL]
    rw [Sem.run_bind, this]
    rfl) h

/-- Some elements, one behind the other. -/
theorem TOp_buildSlice (hT : T.Of Γ.P) (ho : opAt ops E i = some o) {t : TypeId} {n : Nat} {parts : Array (Nat × Operand)} (hop : o.op = .buildSlice t n parts)
    {e : TypeId} {s1 s2 : Nat} {z : Value} (hy : T.get t = some ⟨.slice e, s1, s2, z⟩) {ye : Ty} (he : T.get e = some ye) {ps : List (Nat × Value)} (hps : getParts E parts.toList = some ps)
    (hsm : Nat.ble (n * ye.size) 16777216 = true) {cells : List Value} (hf : fillL (fun i => some (i * ye.size, ye.size)) (zerosL n ye) ps = some cells)
    (h : ∀ b, TN Γ K (E.put o.dst (.slice (some ⟨b, 0, none⟩) n n)) (sep (cel b e cells :: L))) : TOp Γ ops Q i K E (sep L) :=
  TOp_new (ob := .cells cells.toArray e) ho (fun a w ha hk => by
    unfold execOp
    rw [hop]
    have e1 : (parts.map fun (x : Nat × Operand) => (x.1, a.eval x.2)) = ps.toArray := map_toArray _ _ (getParts_eval ha hps)
    have hz := (hT.fits he).run_zeroValue w
    have hle := Nat.le_of_ble_eq_true hsm
    have hf' : Instr.fill (fun i => some (i * ye.size, ye.size)) (madeCells ye.zero.cells (n * ye.size)) ps = some cells.toArray := fill_sound (fun _ _ h => h) hf
    have e1' : (parts.map fun x => match x with | (i, x) => (i, a.eval x)) = ps.toArray := e1
    unfold madeCells at hf'
    by_cases h0 : n * ye.size = 0
    · have h00 : Array.range 0 = #[] := rfl
      simp only [h0, h00, Array.map_empty] at hf'
      simp [h00, Instr.buildSlice, (hT.fits hy).run_underlying, (hT.fits he).run_sizeOf, h0, e1', hf', newRow, newObj, Sem.run]
    · simp [Instr.buildSlice, (hT.fits hy).run_underlying, (hT.fits he).run_sizeOf, h0, hz, e1', hf', newRow, newObj, Sem.run, show ¬ (16777216 < n * ye.size) by omega]) h

/-- So many times the same cells. -/
def zflat (z : List Value) : Nat → List Value
  | 0 => []
  | n + 1 => z ++ zflat z n
theorem zflat_length (z : List Value) : ∀ n, (zflat z n).length = n * z.length
  | 0 => by simp [zflat]
  | n + 1 => by rw [zflat, List.length_append, zflat_length z n, Nat.add_mul, Nat.one_mul, Nat.add_comm]
theorem zflat_get (z : List Value) : ∀ (n i : Nat), i < n * z.length → (zflat z n)[i]? = z[i % z.length]?
  | 0, i, h => by simp at h
  | n + 1, i, h => by
    unfold zflat
    by_cases hi : i < z.length
    · rw [List.getElem?_append_left hi, Nat.mod_eq_of_lt hi]
    · rw [Nat.add_mul, Nat.one_mul] at h
      rw [List.getElem?_append_right (by omega), zflat_get z n _ (by omega), ← Nat.mod_eq_sub_mod (by omega)]
theorem zerosL_flat {n : Nat} {y : Ty} (h : (cellsL y.zero).length = y.size) : zerosL n y = zflat (cellsL y.zero) n := by
  have hsz : y.zero.cells.size = y.size := by rw [← h, ← cellsL_eq, Array.length_toList]
  apply List.ext_getElem?
  intro i
  by_cases hi : i < n * y.size
  · rw [zflat_get _ _ _ (by rw [h]; exact hi)]
    have hpos : 0 < y.size := Nat.pos_of_ne_zero fun h0 => by rw [h0] at hi; simp at hi
    have hlt : i % y.zero.cells.size < y.zero.cells.size := Nat.mod_lt _ (by omega)
    unfold zerosL madeCells
    rw [Array.toList_map, List.getElem?_map, Array.toList_range, List.getElem?_range hi, h, ← cellsL_eq]
    simp only [Option.map_some]
    rw [getElem!_pos y.zero.cells _ hlt]
    simp [hsz] at hlt ⊢
  · rw [List.getElem?_eq_none (by rw [zerosL_length]; omega), List.getElem?_eq_none (by rw [zflat_length, h]; omega)]
/-- Some elements of more cells. -/
theorem TOp_buildSliceA (hT : T.Of Γ.P) (ho : opAt ops E i = some o) {t : TypeId} {n : Nat} {parts : Array (Nat × Operand)} (hop : o.op = .buildSlice t n parts)
    {e : TypeId} {s1 s2 : Nat} {z : Value} (hy : T.get t = some ⟨.slice e, s1, s2, z⟩) {ye : Ty} (he : T.get e = some ye) (hz : Nat.beq (cellsL ye.zero).length ye.size = true) {ps : List (Nat × Value)} (hps : getParts E parts.toList = some ps)
    (hsm : Nat.ble (n * ye.size) 16777216 = true) {cells : List Value} (hf : fillL (fun i => some (i * ye.size, ye.size)) (zflat (cellsL ye.zero) n) ps = some cells)
    (h : ∀ b, TN Γ K (E.put o.dst (.slice (some ⟨b, 0, none⟩) n n)) (sep (cel b e cells :: L))) : TOp Γ ops Q i K E (sep L) :=
  TOp_buildSlice hT ho hop hy he hps hsm (by rw [zerosL_flat (Nat.eq_of_beq_eq_true hz)]; exact hf) h
/-- The values of parts that are one cell each, all of them, in order. -/
def getRow (E : Env) : Nat → List (Nat × Operand) → Option (List Value)
  | _, [] => some []
  | k, (i, x) :: r => match Nat.beq i k, E.get x, getRow E (k + 1) r with
    | true, some v, some l => match isCell v with
      | true => some (v :: l)
      | false => none
    | _, _, _ => none
theorem cellsL_cell {v : Value} (h : isCell v = true) : cellsL v = [v] := by cases v <;> first | rfl | cases h
theorem getRow_parts {E : Env} : ∀ {l : List (Nat × Operand)} {k : Nat} {vs : List Value}, getRow E k l = some vs → vs.length = l.length ∧ vs.all isCell = true ∧ getParts E l = some (vs.zipIdx k |>.map fun x => (x.2, x.1))
  | [], _, _, h => by cases h; exact ⟨rfl, rfl, rfl⟩
  | (i, x) :: r, k, vs, h => by
    unfold getRow at h
    split at h
    · rename_i v l h1 h2 h3
      split at h
      · rename_i hc
        cases h
        obtain ⟨h4, h5, h6⟩ := getRow_parts h3
        have hik := Nat.eq_of_beq_eq_true h1
        subst hik
        refine ⟨by simp [h4], by simp [hc, h5], ?_⟩
        unfold getParts
        rw [h2, h6]
        rfl
      · cases h
    · cases h
theorem fill_row {vs : List Value} (hc : vs.all isCell = true) : ∀ (pre l : List Value), vs.length = l.length → fillL (fun i => some (i * 1, 1)) (pre ++ l) ((vs.zipIdx pre.length).map fun x => (x.2, x.1)) = some (pre ++ vs) := by
  induction vs with
  | nil => intro pre l h; cases l with
    | nil => simp [fillL]
    | cons => cases h
  | cons v vs ih =>
    intro pre l h
    cases l with
    | nil => cases h
    | cons x l =>
      simp only [List.all_cons, Bool.and_eq_true] at hc
      have h' : vs.length = l.length := by simpa using h
      simp only [List.zipIdx_cons, List.map_cons, fillL]
      rw [cellsL_cell hc.1]
      have hb : (Nat.beq [v].length 1 && Nat.ble (pre.length * 1 + [v].length) (pre ++ x :: l).length) = true := by
        simp only [Bool.and_eq_true, Nat.beq_eq, Nat.ble_eq]
        refine ⟨rfl, ?_⟩
        simp
      simp only [hb]
      have hset : setAll (pre ++ x :: l) (pre.length * 1) [v] = (pre ++ [v]) ++ l := by
        rw [Nat.mul_one]
        have := setAll_pre [v] pre (x :: l) 0
        rw [Nat.add_zero] at this
        rw [this, List.append_assoc]
        rfl
      rw [hset]
      have := ih hc.2 (pre ++ [v]) l h'
      rw [List.length_append] at this
      simpa using this
/-- Some elements of one cell each. -/
theorem TOp_buildSliceC (hT : T.Of Γ.P) (ho : opAt ops E i = some o) {t : TypeId} {n : Nat} {parts : Array (Nat × Operand)} (hop : o.op = .buildSlice t n parts)
    {e : TypeId} {s1 s2 : Nat} {z : Value} (hy : T.get t = some ⟨.slice e, s1, s2, z⟩) {ye : Ty} (he : T.get e = some ye) (hsz : Nat.beq ye.size 1 = true) {vs : List Value} (hps : getRow E 0 parts.toList = some vs)
    (hn : Nat.beq parts.size n = true) (hsm : Nat.ble n 16777216 = true)
    (h : ∀ b, TN Γ K (E.put o.dst (.slice (some ⟨b, 0, none⟩) n n)) (sep (cel b e vs :: L))) : TOp Γ ops Q i K E (sep L) := by
  obtain ⟨h1, h2, h3⟩ := getRow_parts hps
  have h4 := Nat.eq_of_beq_eq_true hsz
  have h5 := Nat.eq_of_beq_eq_true hn
  refine TOp_buildSlice hT ho hop hy he h3 (by rw [h4, Nat.mul_one]; exact hsm) (cells := vs) ?_ h
  rw [h4]
  have := fill_row h2 [] (zerosL n ye) (by rw [zerosL_length, h1, h4, Array.length_toList, h5, Nat.mul_one])
  simpa using this

/-- A nil slice's row. -/
theorem TN.nilrow (t : TypeId) (sz : Nat) {xs : List Value} (hx : xs = []) (h : TN Γ K E (sep (Row nilS t sz xs :: L))) : TN Γ K E (sep L) := by
  subst hx
  refine h.pre ?_
  exact (Ent.of_eq (emp_star _).symm).trans (Ent.star (Row.nil t sz) (.refl _))
/-- Cells in another form. -/
theorem TN.same (b : Nat) {t : TypeId} {l l' : List Value} {up : List Value → List HProp} [hf : Find b L t l up] (e : l = l') (h : TN Γ K E (sep (up l'))) : TN Γ K E (sep L) := by
  obtain ⟨R, h1, h2⟩ := hf.out
  rw [h1, e, ← h2]
  exact h
theorem TN.rowsame (s : Slc) {t : TypeId} {sz : Nat} {xs xs' : List Value} {R : List HProp} [ht : FindRow s L t sz xs R] (e : xs = xs') (h : TN Γ K E (sep (Row s t sz xs' :: R))) : TN Γ K E (sep L) := by
  rw [ht.out, e]
  exact h

/-- Bounds of a slice expression. -/
def bnd (E : Env) (x : Option Operand) (d k : Nat) : Prop := match x with
  | none => k = d
  | some x => ∃ kd, E.get x = some (.int kd (k : Int))
theorem bound_run {P : Program} {w : World} {kd : IntKind} {k y : Nat} (c : BoundsCode) (h : k ≤ y) : (Instr.sliceBound (.int kd (k : Int)) y c).run P w = .ok k w := by
  have h' : (0 : Int) ≤ k ∧ (k : Int) ≤ y := ⟨by omega, by omega⟩
  simp [Instr.sliceBound, asIntOf, h'.2]
theorem Ex_slice (hT : T.Of Γ.P) {D : World → Prop} {t : TypeId} {x : Operand} {lo hi mx : Option Operand} (hop : o.op = .slice t x lo hi mx) {ad : Option Addr} {len cap : Nat} (hx : E.get x = some (.slice ad len cap))
    {l h m : Nat} (hl : bnd E lo 0 l) (hh : bnd E hi len h) (hm : bnd E mx cap m) (hmh : mx.isSome = true → hi.isSome = true) {e : TypeId} {s1 s2 : Nat} {z : Value} (hy : T.get t = some ⟨.slice e, s1, s2, z⟩) {ye : Ty} (he : T.get e = some ye)
    (h1 : l ≤ h) (h2 : h ≤ m) (h3 : m ≤ cap) : Exact Γ D o E (.slice (if m = l then ad else ad.map (·.add (l * ye.size))) (h - l) (m - l)) := fun a w ha _ => by
  unfold execOp
  rw [hop]
  have hb : (Instr.sliceBounds true len cap (lo.map a.eval) (hi.map a.eval) (mx.map a.eval)).run Γ.P w = .ok (l, h, m) w := by
    cases lo <;> cases hi <;> cases mx <;> simp only [bnd] at hl hh hm <;> first
      | (simp at hmh; done)
      | skip
    · subst hl hh hm; simp [Instr.sliceBounds]
    · obtain ⟨kh, hh⟩ := hh; subst hl hm; simp [Instr.sliceBounds, Env.get_eval ha hh, bound_run _ h2]
    · obtain ⟨kh, hh⟩ := hh; obtain ⟨km, hm⟩ := hm; subst hl; simp [Instr.sliceBounds, Env.get_eval ha hh, Env.get_eval ha hm, bound_run _ h2, bound_run _ h3]
    · obtain ⟨kl, hl⟩ := hl; subst hh hm; simp [Instr.sliceBounds, Env.get_eval ha hl, bound_run _ h1]
    · obtain ⟨kl, hl⟩ := hl; obtain ⟨kh, hh⟩ := hh; subst hm; simp [Instr.sliceBounds, Env.get_eval ha hl, Env.get_eval ha hh, bound_run _ h1, bound_run _ h2]
    · obtain ⟨kl, hl⟩ := hl; obtain ⟨kh, hh⟩ := hh; obtain ⟨km, hm⟩ := hm; simp [Instr.sliceBounds, Env.get_eval ha hl, Env.get_eval ha hh, Env.get_eval ha hm, bound_run _ h1, bound_run _ h2, bound_run _ h3]
  simp [Instr.sliceAt, Instr.slice, Env.get_eval ha hx, (hT.fits hy).run_underlying, (hT.fits he).run_sizeOf, hb]

/-! ### append -/
/-- What is appended: so many elements, so many cells. -/
def SrcOK (P : Program) (sz : Nat) (x : Value) (n : Nat) (news : List Value) (w : World) : Prop :=
  (∀ w' : World, (Builtin.lenOf x).run P w' = .ok n w') ∧ (∀ w' : World, w'.heap = w.heap → (Builtin.firstCells sz n x).run P w' = .ok news.toArray w')

theorem firstCells_cel {P : Program} {w : World} {g o n len cap sz : Nat} {l xs : List Value} {t : TypeId} (hb : w.heap[g]? = some (.cells l.toArray t)) (hx : sliceL l o (n * sz) = xs) (hl : o + n * sz ≤ l.length) :
    (Builtin.firstCells sz n (.slice (some ⟨g, o, none⟩) len cap)).run P w = .ok xs.toArray w := by
  have := run_loadCells_row (P := P) (n := n * sz) (i := o) hb (by simpa using hl)
  simp only [hx] at this
  exact this

theorem row_src {P : Program} {s : Slc} {t : TypeId} {sz : Nat} {xs : List Value} {A : HProp} {w : World} (h : Sat w (star (Row s t sz xs) A)) : SrcOK P sz s.val s.n xs w := by
  unfold Row Pack at h
  obtain ⟨x, h⟩ := Sat.ex.1 h
  rw [star_assoc] at h
  obtain ⟨hp, h⟩ := Sat.lift.1 h
  refine ⟨fun _ => rfl, fun w' hw => ?_⟩
  cases x with
  | none =>
    obtain ⟨rfl, rfl⟩ := hp
    simp [Builtin.firstCells]
  | some x =>
    obtain ⟨g, pre, sp⟩ := x
    obtain ⟨ha, hlen, -, -, -⟩ := hp
    have hb : w.heap[g]? = some (.cells (pre ++ (xs ++ sp)).toArray t) := by
      have h' : Sat w (star (star (cel g t (pre ++ (xs ++ sp))) emp) A) := h
      rw [star_emp] at h'
      exact h'.pt
    rw [← hw] at hb
    unfold Slc.val
    rw [ha]
    refine firstCells_cel hb ?_ (by simp; omega)
    have := sliceL_pre pre (xs ++ sp) 0 (s.n * sz)
    rw [Nat.add_zero] at this
    rw [this, sliceL_post _ _ _ _ (by omega)]
    unfold sliceL
    rw [List.drop_zero, ← hlen, List.take_length]

def bltn (b : Builtin) : Array TypeId → TypeId → Array Value → Sem Value := match b with
  | .append => Builtin.append_
  | .clear => Builtin.clear_
  | .copy => Builtin.copy_
  | .delete => Builtin.delete_
  | .cap => Builtin.cap_
  | .len => Builtin.len_
  | _ => fun _ _ _ => pure undef
def bltnOK (b : Builtin) : Bool := match b with
  | .append | .clear | .copy | .delete | .cap | .len => true
  | _ => false
theorem exec_bltn {P : Program} {a : Act} {w : World} {o : Oper} {c : Call} {b : Builtin} (hop : o.op = .call c) (hb : c.callee = .builtin b) (hk : bltnOK b = true) {vs : List Value} (hE : E.holds a) (hargs : getAll E c.args.toList = some vs) :
    ∃ ty, (execOp a.eval o).run P w = ((bltn b c.argTypes ty vs.toArray).run P w).andThen fun v w' => .ok (.value v) w' := by
  have h1 : c.args.map a.eval = vs.toArray := map_toArray _ _ (getAll_eval hE hargs)
  unfold execOp
  rw [hop]
  cases b <;> first
    | (cases hk; done)
    | (simp [resolve, hb, h1, invoke, builtin, bltn]
       exact ⟨_, rfl⟩)

theorem append_room {P : Program} {w : World} {t tx ty e : TypeId} {ye : Ty} (ht : P.underlying t = some (.slice e)) (hx : ∃ e', P.underlying tx = some (.slice e')) (he : Ty.fits P e ye)
    {g o n cap m : Nat} {l news : List Value} {tt : TypeId} {x : Value} (hb : w.heap[g]? = some (.cells l.toArray tt)) (hs : SrcOK P ye.size x m news w) (hn : news.length = m * ye.size) (hroom : n + m ≤ cap)
    (hl : o + (n + m) * ye.size ≤ l.length) (hc : news.all isCell = true) :
    ∃ w', (Builtin.append_ #[t, tx] ty #[.slice (some ⟨g, o, none⟩) n cap, x]).run P w = .ok (.slice (some ⟨g, o, none⟩) (n + m) cap) w' ∧ Turned w w' g (.cells (setAll l (o + n * ye.size) news).toArray tt) := by
  obtain ⟨e', hx⟩ := hx
  rw [Nat.add_mul] at hl
  obtain ⟨w', h1, h2⟩ := run_storeCells (P := P) news l (o + n * ye.size) 0 w hb (by omega) hc
  refine ⟨w', ?_, h2⟩
  simp [Builtin.append_, run_underlying ht, run_underlying hx, he.run_sizeOf, hs.1, hroom, hs.2 w rfl, Addr.add_none, h1]

theorem append_grow {P : Program} {w : World} {t tx ty e : TypeId} {ye : Ty} (ht : P.underlying t = some (.slice e)) (hx : ∃ e', P.underlying tx = some (.slice e')) (he : Ty.fits P e ye)
    {ad : Option Addr} {n cap m : Nat} {olds news : List Value} {x : Value} (ho : SrcOK P ye.size (.slice ad n cap) n olds w) (hs : SrcOK P ye.size x m news w) (hn : news.length = m * ye.size) (hc : news.all isCell = true)
    (hz : (cellsL ye.zero).length = ye.size) (hroom : cap < n + m) (hby : 0 < ye.bytes) (hbytes : (n + m) * ye.bytes ≤ 140737488355328) :
    ∃ cap' sp w', (Builtin.append_ #[t, tx] ty #[.slice ad n cap, x]).run P w = .ok (.slice (some ⟨w.heap.size, 0, none⟩) (n + m) cap') w' ∧ n + m ≤ cap' ∧ sp.length = (cap' - (n + m)) * ye.size ∧
      w'.heap = w.heap.push (.cells ((olds ++ news) ++ sp).toArray e) ∧ w'.os = w.os ∧ w'.output = w.output := by
  obtain ⟨inf, hinf, hsz, hb, hze⟩ := he.info
  have hsrc : Src P inf.size tx x m news w := by
    rw [hsz]
    exact ⟨.inl hx, hs.1, hs.2 w rfl, hs.2 w.drew rfl, hn, isCell_of hc⟩
  have hle : n + m ≤ (n + m) * ye.bytes := Nat.le_mul_of_pos_right _ hby
  have h1 := run_append_grow_src (P := P) w t tx ty e inf ye.zero ht hinf hze ad n cap olds (by rw [hsz]; exact ho.2 w.drew rfl) x m news hsrc hroom (by omega) (by rw [hb]; exact growslice_fits hroom hbytes)
  refine ⟨_, (Builtin.zeroCells ye.zero.cells (grownCap w (n + m) cap e - (n + m))).toList, _, h1, grownCap_ge w (n + m) cap e, ?_, ?_, rfl, rfl⟩
  · have : ye.zero.cells.size = ye.size := by rw [← hz, ← cellsL_eq, Array.length_toList]
    simp [Builtin.zeroCells, this]
  · show w.heap.push _ = w.heap.push _
    congr 2
    apply Array.ext'
    simp

theorem Row.sat {w : World} {s : Slc} {t : TypeId} {sz : Nat} {xs : List Value} {A : HProp} (h : Sat w (star (Row s t sz xs) A)) : ∃ x, RowP s sz xs x ∧ Sat w (star (sep (RowL t xs x)) A) := by
  unfold Row Pack at h
  obtain ⟨x, h⟩ := Sat.ex.1 h
  rw [star_assoc] at h
  obtain ⟨hp, h⟩ := Sat.lift.1 h
  exact ⟨x, hp, h⟩
theorem Row.ent {s : Slc} {t : TypeId} {sz : Nat} {xs : List Value} (x : Option (Nat × List Value × List Value)) (h : RowP s sz xs x) : Ent (sep (RowL t xs x)) (Row s t sz xs) := ent_pack x h

/-- Elements are appended: the slice has them too, wherever it lies now. -/
theorem append_rows {S : Hp} {R : HProp} {P : Program} {t tx ty e : TypeId} {ye : Ty} (ht : P.underlying t = some (.slice e)) (hx : ∃ e', P.underlying tx = some (.slice e')) (he : Ty.fits P e ye)
    (hz : (cellsL ye.zero).length = ye.size) (hby : 0 < ye.bytes) {s r : Slc} {xs ys : List Value} (hbytes : (s.n + r.n) * ye.bytes ≤ 140737488355328) {A : HProp} {w : World}
    (hk : Sat w (star (star (Row s e ye.size xs) (star (Row r e ye.size ys) A)) (star (own S) R))) :
    ∃ s' w', (Builtin.append_ #[t, tx] ty #[s.val, r.val]).run P w = .ok s'.val w' ∧ s'.n = s.n + r.n ∧ Kept w w' ∧
      Sat w' (star (star (Row s' e ye.size (xs ++ ys)) (star (Row r e ye.size ys) A)) (star (own S) R)) := by
  have hk1 : Sat w (star (Row s e ye.size xs) (star (star (Row r e ye.size ys) A) (star (own S) R))) := by rw [← star_assoc]; exact hk
  have hk2 : Sat w (star (Row r e ye.size ys) (star (star (Row s e ye.size xs) A) (star (own S) R))) := by
    rw [star_assoc]; rw [star_assoc, star_assoc, star_left_comm] at hk; exact hk
  have src1 := row_src (P := P) hk1
  have src2 := row_src (P := P) hk2
  obtain ⟨y, hy, hk2'⟩ := Row.sat hk2
  obtain ⟨x, hxp, hk1'⟩ := Row.sat hk1
  by_cases hroom : s.n + r.n ≤ s.cap
  · cases x with
    | none =>
      obtain ⟨hs, rfl⟩ := hxp
      have hr0 : r.n = 0 := by rw [hs] at hroom; simp at hroom; exact hroom
      have hys : ys = [] := by
        have := hy.len
        rw [hr0, Nat.zero_mul] at this
        exact List.length_eq_zero_iff.1 this
      subst hys
      refine ⟨s, w, ?_, by omega, Kept.refl w, by simpa using hk⟩
      obtain ⟨e', hx⟩ := hx
      have hl := src2.1 w
      have hf := src2.2 w rfl
      rw [hr0] at hl hf
      subst hs
      simp [Builtin.append_, run_underlying ht, run_underlying hx, he.run_sizeOf, hl, hf]
    | some x =>
      obtain ⟨g, pre, sp⟩ := x
      obtain ⟨ha, hlen, hn, hcap, hcell⟩ := hxp
      have hb : w.heap[g]? = some (.cells (pre ++ (xs ++ sp)).toArray e) := by
        have h' : Sat w (star (star (cel g e (pre ++ (xs ++ sp))) emp) (star (star (Row r e ye.size ys) A) (star (own S) R))) := hk1'
        rw [star_emp] at h'
        exact h'.pt
      have hle : (s.n + r.n) * ye.size ≤ s.cap * ye.size := Nat.mul_le_mul_right _ hroom
      have hyl := hy.len
      have hsum : (s.n + r.n) * ye.size = s.n * ye.size + r.n * ye.size := Nat.add_mul ..
      obtain ⟨w', h1, h2⟩ := append_room (ty := ty) (o := pre.length) ht hx he hb src2 hyl hroom (by simp; omega) hy.cells
      refine ⟨⟨s.a, s.n + r.n, s.cap⟩, w', ?_, rfl, ⟨h2.os, h2.output, by rw [h2.size]; exact Nat.le_refl _⟩, ?_⟩
      · unfold Slc.val at *; rw [ha]; exact h1
      · have hset : setAll (pre ++ (xs ++ sp)) (pre.length + s.n * ye.size) ys = pre ++ ((xs ++ ys) ++ sp.drop ys.length) := by
          rw [setAll_pre, ← hlen]
          have := setAll_pre ys xs sp 0
          rw [Nat.add_zero] at this
          rw [this, List.append_assoc]
          congr 2
          have hsp : sp = sp.take ys.length ++ sp.drop ys.length := (List.take_append_drop _ _).symm
          have hl1 : (sp.take ys.length).length = ys.length := by rw [List.length_take]; omega
          rw [hsp, setAll_post _ _ _ _ (by omega), setAll_all _ _ hl1.symm, ← hsp]
        rw [star_assoc]
        have h' : Sat w (star (star (cel g e (pre ++ (xs ++ sp))) emp) (star (star (Row r e ye.size ys) A) (star (own S) R))) := hk1'
        rw [star_emp] at h'
        have h3 := h'.set h2.at_ h2.rest
        rw [hset] at h3
        refine h3.mono (Ent.star ?_ (.refl _))
        refine Ent.trans ?_ (Row.ent (some (g, pre, sp.drop ys.length)) ⟨ha, ?_, hroom, ?_, ?_⟩)
        · exact Ent.of_eq (star_emp _).symm
        · rw [List.length_append]; show _ = (s.n + r.n) * _; omega
        · show s.cap * _ ≤ _
          rw [List.length_append, List.length_drop]; omega
        · rw [List.all_append, hcell, hy.cells]; rfl
  · obtain ⟨cap', sp, w', h1, h2, h3, h4, h5, h6⟩ := append_grow (ty := ty) ht hx he src1 src2 hy.len hy.cells hz (Nat.lt_of_not_le hroom) hby hbytes
    refine ⟨⟨some ⟨w.heap.size, 0, none⟩, s.n + r.n, cap'⟩, w', h1, rfl, ⟨h5, h6, by rw [h4]; simp⟩, ?_⟩
    have hnew : Sat w' (star (cel w.heap.size e ((xs ++ ys) ++ sp)) (star (Row s e ye.size xs) (star (star (Row r e ye.size ys) A) (star (own S) R)))) :=
      hk1.new (fun k hlt => by rw [h4, Array.getElem?_push]; rw [if_neg (by omega)]) (by rw [h4]; simp)
    rw [star_assoc]
    have hdrop : ∀ {X Y Z : HProp}, Sat w' (star X (star Y Z)) → Sat w' (star X Z) := fun {X Y Z} h => by
      rw [star_left_comm] at h
      obtain ⟨q, hq, p1, p2, d, e', _, hp⟩ := h
      exact ⟨p2, fun b o ho => hq b o (by rw [e']; exact hjoin_right d ho), hp⟩
    refine (hdrop hnew).mono (Ent.star ?_ (.refl _))
    have hl1 := hxp.len
    have hl2 := hy.len
    have hsum : (s.n + r.n) * ye.size = s.n * ye.size + r.n * ye.size := Nat.add_mul ..
    refine Ent.trans (Ent.of_eq ?_) (Row.ent (some (w.heap.size, [], sp)) ⟨rfl, ?_, h2, ?_, ?_⟩)
    · exact (star_emp _).symm
    · rw [List.length_append]; show _ = (s.n + r.n) * _; omega
    · show cap' * _ ≤ _
      rw [List.length_append, h3, Nat.sub_mul]
      have := Nat.mul_le_mul_right ye.size h2
      omega
    · rw [List.all_append, hxp.cells, hy.cells]; rfl

theorem TOp_append (hT : T.Of Γ.P) (ho : opAt ops E i = some o) {c : Call} (hop : o.op = .call c) (hcl : c.callee = .builtin .append) {t tx : TypeId} (hty : c.argTypes = #[t, tx]) {s r : Slc} (hargs : getAll E c.args.toList = some [s.val, r.val])
    {e : TypeId} {s1 s2 : Nat} {z : Value} (hy : T.get t = some ⟨.slice e, s1, s2, z⟩) {e' : TypeId} {s1' s2' : Nat} {z' : Value} (hy' : T.get tx = some ⟨.slice e', s1', s2', z'⟩) {ye : Ty} (he : T.get e = some ye)
    (hz : Nat.beq (cellsL ye.zero).length ye.size = true) (hby : Nat.ble 1 ye.bytes = true) {sz : Nat} (hsz : ye.size = sz) {xs ys : List Value} {R1 R : List HProp} [h1 : FindRow s L e sz xs R1] [h2 : FindRow r R1 e sz ys R] (hbytes : (s.n + r.n) * ye.bytes ≤ 140737488355328)
    (h : ∀ s' : Slc, s'.n = s.n + r.n → TN Γ K (E.put o.dst s'.val) (sep (Row s' e sz (xs ++ ys) :: Row r e sz ys :: R))) : TOp Γ ops Q i K E (sep L) := by
  subst hsz
  have ht : sep L = star (sep [Row s e ye.size xs, Row r e ye.size ys]) (sep R) := by
    rw [h1.out, h2.out]
    show _ = star (star _ (star _ emp)) _
    rw [star_emp, star_assoc]
  obtain ⟨h1, h2, h3, hdef⟩ := opAt_spec ho
  refine TOp_val (ι := { s' : Slc // s'.n = s.n + r.n }) (V := fun s' => s'.1.val) (B := fun s' => sep (Row s'.1 e ye.size (xs ++ ys) :: Row r e ye.size ys :: R)) h1 h2 h3 hdef (fun a w ha hw => ?_) (fun s' => h s'.1 s'.2)
  obtain ⟨ty, hex⟩ := exec_bltn (P := Γ.P) (w := w) hop hcl rfl ha hargs
  have hs := hw.1
  rw [ht] at hs
  have hsep : star (sep [Row s e ye.size xs, Row r e ye.size ys]) (sep R) = star (Row s e ye.size xs) (star (Row r e ye.size ys) (sep R)) := by
    show star (star _ (star _ emp)) _ = _
    rw [star_emp, star_assoc]
  rw [hsep] at hs
  obtain ⟨s', w', hr, hn, hkept, hsat⟩ := append_rows (ty := ty) (hT.fits hy).ud ⟨e', (hT.fits hy').ud⟩ (hT.fits he) (Nat.eq_of_beq_eq_true hz) (Nat.le_of_ble_eq_true hby) hbytes hs
  refine ⟨⟨s', hn⟩, w', .inl ?_, hsat, hw.2.trans hkept⟩
  rw [hex, hty]
  show ((Builtin.append_ #[t, tx] ty #[s.val, r.val]).run Γ.P w).andThen _ = _
  rw [hr]
  rfl
/-- Some elements that were just laid down are appended. -/
theorem TOp_append1 (hT : T.Of Γ.P) (ho : opAt ops E i = some o) {c : Call} (hop : o.op = .call c) (hcl : c.callee = .builtin .append) {t tx : TypeId} (hty : c.argTypes = #[t, tx]) {s : Slc} {b m cap : Nat}
    (hargs : getAll E c.args.toList = some [s.val, .slice (some ⟨b, 0, none⟩) m cap])
    {e : TypeId} {s1 s2 : Nat} {z : Value} (hy : T.get t = some ⟨.slice e, s1, s2, z⟩) {e' : TypeId} {s1' s2' : Nat} {z' : Value} (hy' : T.get tx = some ⟨.slice e', s1', s2', z'⟩) {ye : Ty} (he : T.get e = some ye)
    (hz : Nat.beq (cellsL ye.zero).length ye.size = true) (hby : Nat.ble 1 ye.bytes = true) {sz : Nat} (hsz : ye.size = sz) {xs ys : List Value} {R1 R : List HProp} (hcap : Nat.ble m cap = true) [h1 : TakeCel b L e ys R1] [h2 : FindRow s R1 e sz xs R] (hm : Nat.beq (cap * sz) ys.length = true) (hm' : Nat.beq (m * sz) ys.length = true)
    (hc : ys.all isCell = true) (hbb : Nat.ble ye.bytes 32768 = true) (hn32 : s.n + m ≤ 4294967296)
    (h : ∀ s' : Slc, s'.n = s.n + m → TN Γ K (E.put o.dst s'.val) (sep (Row s' e sz (xs ++ ys) :: R))) : TOp Γ ops Q i K E (sep L) := by
  subst hsz
  have hbytes : (s.n + m) * ye.bytes ≤ 140737488355328 := by
    have := Nat.mul_le_mul hn32 (Nat.le_of_ble_eq_true hbb)
    omega
  refine TN.pre (A' := sep (Row ⟨some ⟨b, 0, none⟩, m, cap⟩ e ye.size ys :: Row s e ye.size xs :: R)) ?_ ?_
  · refine TOp_append (s := s) (r := ⟨some ⟨b, 0, none⟩, m, cap⟩) (xs := xs) (ys := ys) (R := R) (h1 := .there) (h2 := .here) (hsz := rfl) hT ho hop hcl hty hargs hy hy' he hz hby hbytes fun s' hs' => ?_
    exact TN.keep (Row s' e ye.size (xs ++ ys) :: R) (h := ⟨by show star _ (star _ _) = star (star _ (sep R)) (sep [Row ⟨some ⟨b, 0, none⟩, m, cap⟩ e ye.size ys]); rw [sep_one, star_assoc, star_comm (sep R)]⟩) (h s' hs')
  · rw [h1.out, h2.out]
    show Ent (star _ (star _ _)) (star _ (star _ _))
    refine Ent.star ?_ (.refl _)
    have := Row.of_cel (g := b) (t := e) (sz := ye.size) (n := m) (cap := cap) (xs := ys) [] (Nat.eq_of_beq_eq_true hm').symm (Nat.le_of_ble_eq_true hcap) (by rw [Nat.eq_of_beq_eq_true hm]; simp) hc
    rwa [List.append_nil] at this

/-- Some elements are zero again. -/
theorem TOp_clear (hT : T.Of Γ.P) (ho : opAt ops E i = some o) {c : Call} (hop : o.op = .call c) (hcl : c.callee = .builtin .clear) {t : TypeId} (hty : c.argTypes = #[t]) {g off n cap : Nat}
    (hargs : getAll E c.args.toList = some [.slice (some ⟨g, off, none⟩) n cap]) {e : TypeId} {s1 s2 : Nat} {z : Value} (hy : T.get t = some ⟨.slice e, s1, s2, z⟩) {ye : Ty} (he : T.get e = some ye)
    (hz : Nat.beq (cellsL ye.zero).length ye.size = true) (hzc : (cellsL ye.zero).all isCell = true) {tt : TypeId} {l : List Value} {up : List Value → List HProp} [hf : Find g L tt l up] (hl : off + n * ye.size ≤ l.length)
    (h : TN Γ K (E.put o.dst (.tuple #[])) (sep (up (setAll l off (zerosL n ye))))) : TOp Γ ops Q i K E (sep L) :=
  TOp_one ho (fun a w ha hk => by
    have hb := ok_find (b := g) hk
    obtain ⟨ty, hex⟩ := exec_bltn (P := Γ.P) (w := w) hop hcl rfl ha hargs
    have hzs : ye.zero.cells.size = ye.size := by rw [← Nat.eq_of_beq_eq_true hz, ← cellsL_eq, Array.length_toList]
    have hzl : (Builtin.zeroCells ye.zero.cells n).toList = zerosL n ye := by
      unfold Builtin.zeroCells zerosL madeCells
      rw [hzs]
    have hall : (zerosL n ye).all isCell = true := by
      rw [List.all_eq_true]
      intro u hu
      unfold zerosL madeCells at hu
      simp only [Array.toList_map, List.mem_map, Array.toList_range, List.mem_range] at hu
      obtain ⟨j, hj, rfl⟩ := hu
      have hpos : 0 < ye.zero.cells.size := by
        rw [hzs]
        rcases Nat.eq_zero_or_pos ye.size with h0 | h0
        · rw [h0] at hj; simp at hj
        · exact h0
      have hlt := Nat.mod_lt j hpos
      rw [getElem!_pos ye.zero.cells _ hlt]
      have := List.all_eq_true.1 hzc
      refine this _ ?_
      rw [← cellsL_eq]
      simp
    obtain ⟨w', h1, h2⟩ := run_storeCells (P := Γ.P) (zerosL n ye) l off 0 w hb (by rw [zerosL_length]; omega) hall
    rw [hex, hty]
    show ∃ w', (((Builtin.clear_ #[t] ty #[.slice (some ⟨g, off, none⟩) n cap]).run Γ.P w).andThen _ = _ ∨ _) ∧ _
    by_cases hn : n = 0
    · subst hn
      refine ⟨w, .inl ?_, ?_⟩
      · simp [Builtin.clear_, (hT.fits hy).run_underlying]
      · have hz0 : zerosL 0 ye = [] := List.length_eq_zero_iff.1 (by rw [zerosL_length]; simp)
        rw [hz0]
        show Γ.ok w (sep (up l))
        obtain ⟨R, e1, e2⟩ := hf.out
        rw [e2, ← e1]
        exact hk
    · refine ⟨w', .inl ?_, ?_⟩
      · obtain ⟨n, rfl⟩ := Nat.exists_eq_succ_of_ne_zero hn
        simp [Builtin.clear_, (hT.fits hy).run_underlying, (hT.fits he).run_zeroValue, hzl, h1]
      · obtain ⟨R, e1, e2⟩ := hf.out
        rw [e1] at hk
        rw [e2]
        exact h2.ok hk) h

/-- Elements of a block are written over others of the same block, or of another. -/
theorem TOp_copy (hT : T.Of Γ.P) (ho : opAt ops E i = some o) {c : Call} (hop : o.op = .call c) (hcl : c.callee = .builtin .copy) {t tx : TypeId} (hty : c.argTypes = #[t, tx]) {g off n cap g' off' n' cap' : Nat}
    (hargs : getAll E c.args.toList = some [.slice (some ⟨g, off, none⟩) n cap, .slice (some ⟨g', off', none⟩) n' cap']) {e : TypeId} {s1 s2 : Nat} {z : Value} (hy : T.get t = some ⟨.slice e, s1, s2, z⟩) {ye : Ty} (he : T.get e = some ye)
    {tt tt' : TypeId} {l l' : List Value} {up up' : List Value → List HProp} [hf : Find g L tt l up] [hf' : Find g' L tt' l' up'] {news : List Value} (hnews : sliceL l' off' (Nat.min n' n * ye.size) = news)
    (hl' : off' + Nat.min n' n * ye.size ≤ l'.length) (hl : off + Nat.min n' n * ye.size ≤ l.length) (hc : news.all isCell = true)
    (h : TN Γ K (E.put o.dst (.int .i64 (Nat.min n' n : Nat))) (sep (up (setAll l off news)))) : TOp Γ ops Q i K E (sep L) :=
  TOp_one ho (fun a w ha hk => by
    have hb := ok_find (b := g) hk
    have hb' := ok_find (b := g') hk
    obtain ⟨ty, hex⟩ := exec_bltn (P := Γ.P) (w := w) hop hcl rfl ha hargs
    have hnl : news.length = Nat.min n' n * ye.size := by rw [← hnews]; simp [sliceL]; omega
    have hsrc := firstCells_cel (P := Γ.P) (w := w) (o := off') (n := Nat.min n' n) (sz := ye.size) (len := n') (cap := cap') hb' hnews hl'
    obtain ⟨w', h1, h2⟩ := run_storeCells (P := Γ.P) news l off 0 w hb (by omega) hc
    rw [hex, hty]
    refine ⟨w', .inl ?_, ?_⟩
    · show (((Builtin.copy_ #[t, tx] ty #[.slice (some ⟨g, off, none⟩) n cap, .slice (some ⟨g', off', none⟩) n' cap']).run Γ.P w).andThen _ = _)
      simp only [Builtin.copy_, List.getElem?_toArray]
      simp [(hT.fits hy).run_underlying, Builtin.lenOf, (hT.fits he).run_sizeOf, hsrc, h1, goInt]
    · obtain ⟨R, e1, e2⟩ := hf.out
      rw [e1] at hk
      rw [e2]
      exact h2.ok hk) h
end
end Go.Sl

/-
  Separation logic over the model's heap: rows of elements: opened, read, closed.
-/
namespace Go.Sl
open Go

theorem RowP.pos {s : Slc} {sz : Nat} {xs : List Value} {x : Option (Nat × List Value × List Value)} (h : RowP s sz xs x) (hn : 0 < s.n) : ∃ g pre sp, x = some (g, pre, sp) := by
  cases x with
  | none => obtain ⟨rfl, _⟩ := h; simp at hn
  | some x => exact ⟨x.1, x.2.1, x.2.2, rfl⟩

/-- All elements' cells. -/
theorem flat_length {α : Type} {c : α → List Value} {k : Nat} (hc : ∀ a, (c a).length = k) (l : List α) : (l.flatMap c).length = l.length * k := by
  induction l with
  | nil => simp
  | cons a l ih => simp [List.flatMap_cons, hc, ih, Nat.add_mul, Nat.add_comm]
theorem flat_split {α : Type} (c : α → List Value) {l : List α} {i : Nat} (hi : i < l.length) : l.flatMap c = (l.take i).flatMap c ++ (c l[i] ++ (l.drop (i + 1)).flatMap c) := by
  have h : l = l.take i ++ (l[i] :: l.drop (i + 1)) := by rw [← List.drop_eq_getElem_cons hi, List.take_append_drop]
  conv => lhs; rw [h]
  rw [List.flatMap_append, List.flatMap_cons]
theorem flat_slice {α : Type} {c : α → List Value} {k : Nat} (hc : ∀ a, (c a).length = k) {l : List α} {i : Nat} (hi : i < l.length) : sliceL (l.flatMap c) (i * k) k = c l[i] := by
  have h1 : ((l.take i).flatMap c).length = i * k := by rw [flat_length hc, List.length_take, Nat.min_eq_left (Nat.le_of_lt hi)]
  rw [flat_split c hi]
  have := sliceL_pre ((l.take i).flatMap c) (c l[i] ++ (l.drop (i + 1)).flatMap c) 0 k
  rw [h1, Nat.add_zero (i * k)] at this
  rw [this, sliceL_post _ _ _ _ (by rw [hc]; omega)]
  unfold sliceL
  rw [List.drop_zero, ← hc l[i], List.take_length]
/-- A field of an element is set. -/
theorem flat_set_at {α : Type} {c : α → List Value} {k : Nat} (hc : ∀ a, (c a).length = k) {l : List α} {i : Nat} (hi : i < l.length) (a : α) (f : Nat) (vs : List Value) (hf : f + vs.length ≤ k) (hs : setAll (c l[i]) f vs = c a) :
    setAll (l.flatMap c) (i * k + f) vs = (l.set i a).flatMap c := by
  have h1 : ((l.take i).flatMap c).length = i * k := by rw [flat_length hc, List.length_take, Nat.min_eq_left (Nat.le_of_lt hi)]
  have hi' : i < (l.set i a).length := by simpa using hi
  rw [flat_split c hi, flat_split c hi']
  have := setAll_pre vs ((l.take i).flatMap c) (c l[i] ++ (l.drop (i + 1)).flatMap c) f
  rw [h1] at this
  rw [this, setAll_post _ _ _ _ (by rw [hc]; omega), hs]
  simp [List.take_set_of_le, List.drop_set_of_lt]
theorem flat_get {α : Type} {c : α → List Value} {k : Nat} (hc : ∀ a, (c a).length = k) {l : List α} {i : Nat} (hi : i < l.length) (f : Nat) (hf : f < k) : (l.flatMap c)[i * k + f]? = (c l[i])[f]? := by
  have h1 : ((l.take i).flatMap c).length = i * k := by rw [flat_length hc, List.length_take, Nat.min_eq_left (Nat.le_of_lt hi)]
  rw [flat_split c hi, List.getElem?_append_right (by omega), h1, show i * k + f - i * k = f by omega, List.getElem?_append_left (by rw [hc]; omega)]
theorem flat_cells {α : Type} {c : α → List Value} (hc : ∀ a, (c a).all isCell = true) (l : List α) : (l.flatMap c).all isCell = true := by
  rw [List.all_eq_true]
  intro u hu
  obtain ⟨a, _, ha⟩ := List.mem_flatMap.1 hu
  exact List.all_eq_true.1 (hc a) u ha
theorem loadL_flat {α : Type} {c : α → List Value} {y : Ty} (hy : aggTy y.ud = true) (hc : ∀ a, (c a).length = y.size) {l : List α} {i : Nat} (hi : i < l.length) : loadL y (l.flatMap c) (i * y.size) = some (.agg (c l[i]).toArray) := by
  unfold loadL
  have hb : Nat.ble (i * y.size + y.size) (l.flatMap c).length = true := by
    rw [flat_length hc]
    apply Nat.ble_eq_true_of_le
    have := Nat.mul_le_mul_right y.size (show i + 1 ≤ l.length from hi)
    rw [Nat.add_mul, Nat.one_mul] at this
    exact this
  rw [hy]
  simp only [hb]
  rw [flat_slice hc hi]
theorem loadL_one {y : Ty} (hy : aggTy y.ud = false) {l : List Value} {i : Nat} {v : Value} (h : l[i]? = some v) : loadL y l (i * 1) = some v := by
  unfold loadL; rw [hy, Nat.mul_one]; exact h

section
variable {Γ : Ctx} {Q : Exit → Act → World → Prop} {E : Env} {T : Tys} {ops : Array Oper} {i : Nat} {K : Act → World → Prop} {o : Oper} {L : List HProp}

def RowAt (_ : TypeId) (s : Slc) (sz : Nat) (xs : List Value) (g : Nat) (pre sp : List Value) : Prop := RowP s sz xs (some (g, pre, sp))
/-- A row that isn't empty is opened. -/
theorem TN.rowopen (s : Slc) {t : TypeId} {sz : Nat} {xs : List Value} {R : List HProp} [ht : FindRow s L t sz xs R] (hn : 0 < s.n)
    (h : ∀ g pre sp, s.a = some ⟨g, pre.length, none⟩ → RowAt t s sz xs g pre sp → TN Γ K E (sep (cel g t (pre ++ (xs ++ sp)) :: R))) : TN Γ K E (sep L) := by
  rw [ht.out]
  show TN Γ K E (sep (Row s t sz xs :: R))
  unfold Row
  refine TN.unpack fun x hx => ?_
  obtain ⟨g, pre, sp, rfl⟩ := hx.pos hn
  exact h g pre sp hx.1 hx
/-- and closed. -/
theorem TN.rowclose {s : Slc} {t : TypeId} {sz : Nat} {xs : List Value} {g : Nat} {pre sp : List Value} {R : List HProp} (hx : RowAt t s sz xs g pre sp) [ht : Take1 (cel g t (pre ++ (xs ++ sp))) L R] (h : TN Γ K E (sep (Row s t sz xs :: R))) : TN Γ K E (sep L) := by
  refine h.pre ?_
  rw [ht.out]
  show Ent _ (star _ _)
  exact Ent.star (Ent.trans (Ent.of_eq (star_emp _).symm) (Row.ent (some (g, pre, sp)) hx)) (.refl _)
theorem TN.rowlen (s : Slc) {t : TypeId} {sz : Nat} {xs : List Value} {R : List HProp} [ht : FindRow s L t sz xs R] (h : xs.length = s.n * sz → TN Γ K E (sep L)) : TN Γ K E (sep L) := by
  intro a w ha hw
  refine h ?_ a w ha hw
  have hs := hw.1
  rw [ht.out, star_assoc] at hs
  obtain ⟨x, hx, -⟩ := Row.sat hs
  exact hx.len
/-- The element m. -/
theorem Ex_indexS (hT : T.Of Γ.P) {D : World → Prop} {t : TypeId} {x u : Operand} (hop : o.op = .indexAddr t x u) {a : Option Addr} {b n len cap : Nat} (hx : E.get x = some (.slice a len cap)) (ha : a = some ⟨b, n, none⟩)
    {k : IntKind} {m : Nat} (hu : E.get u = some (.int k (m : Int))) {e : TypeId} {s1 s2 : Nat} {z : Value} (hy : T.get t = some ⟨.slice e, s1, s2, z⟩) {ye : Ty} (he : T.get e = some ye)
    (hm : m < len) {sz : Nat} (hsz : ye.size = sz := by rfl) : Exact Γ D o E (.pointer (some ⟨b, n + m * sz, none⟩)) := by
  subst ha hsz
  have := Ex_index (Γ := Γ) hT hop hx hu hy he (D := D) ⟨by omega, by omega⟩
  simpa using this
/-- An array's element m. -/
theorem Ex_indexA (hT : T.Of Γ.P) {D : World → Prop} {t : TypeId} {x u : Operand} (hop : o.op = .indexAddr t x u) {b n : Nat} (hx : E.get x = some (.pointer (some ⟨b, n, none⟩)))
    {k : IntKind} {m : Nat} (hu : E.get u = some (.int k (m : Int))) {e : TypeId} {len s1 s2 : Nat} {z : Value} (hy : T.get t = some ⟨.array len e, s1, s2, z⟩) {ye : Ty} (he : T.get e = some ye)
    (hm : m < len) {sz : Nat} (hsz : ye.size = sz := by rfl) : Exact Γ D o E (.pointer (some ⟨b, n + m * sz, none⟩)) := fun a w ha _ => by
  subst hsz
  unfold execOp
  rw [hop]
  simp [Instr.indexAt, Env.get_eval ha hx, Env.get_eval ha hu, asIntOf, (hT.fits hy).run_underlying, Instr.sureAddr, hm, (hT.fits he).run_sizeOf, Addr.add_none]
/-- Cells that were just laid down are a row. -/
theorem TN.rownew (b n sz : Nat) {t : TypeId} {l : List Value} (xs : List Value) {R : List HProp} [ht : TakeCel b L t l R] (e : l = xs) (hl : xs.length = n * sz) (hc : xs.all isCell = true)
    (h : TN Γ K E (sep (Row ⟨some ⟨b, 0, none⟩, n, n⟩ t sz xs :: R))) : TN Γ K E (sep L) := by
  refine h.pre ?_
  rw [ht.out, e]
  show Ent _ (star _ _)
  refine Ent.star ?_ (.refl _)
  have := Row.of_cel (g := b) (t := t) (sz := sz) (n := n) (cap := n) (xs := xs) [] hl (Nat.le_refl _) (by rw [hl]; simp) hc
  rwa [List.append_nil] at this
/-- An element of one cell is set. -/
theorem TOp_storeRow {Q : Exit → Act → World → Prop} {ops : Array Oper} {i : Nat} (hT : T.Of Γ.P) (ho : opAt ops E i = some o) {t : TypeId} {x u : Operand} (hop : o.op = .store t x u) {g : Nat} {pre xs sp : List Value} {j : Nat}
    (hx : E.get x = some (.pointer (some ⟨g, pre.length + j * 1, none⟩))) {v : Value} (hv : E.get u = some v) {y : Ty} (hy : T.get t = some y) {tt : TypeId} {up : List Value → List HProp} [hf : Find g L tt (pre ++ (xs ++ sp)) up]
    (hys : Nat.beq y.size 1 = true) (hc : isCell v = true) (hj : j < xs.length) (h : TN Γ K (E.put o.dst undef) (sep (up (pre ++ (xs.set j v ++ sp))))) : TOp Γ ops Q i K E (sep L) := by
  have h1 := Nat.eq_of_beq_eq_true hys
  refine TOp_storeP hT ho hop hx hv hy (by rw [cellsL_cell hc, h1]; rfl) (by rw [h1]; simp; omega) (by rw [cellsL_cell hc]; simp [hc]) ?_
  rw [cellsL_cell hc, setAll_pre, Nat.mul_one, setAll_post _ _ _ _ (by simp; omega)]
  exact h
theorem RowAt.set {t : TypeId} {s : Slc} {sz : Nat} {xs : List Value} {g : Nat} {pre sp : List Value} (h : RowAt t s sz xs g pre sp) (ys : List Value) (hl : ys.length = xs.length) (hc : ys.all isCell = true) : RowAt t s sz ys g pre sp :=
  ⟨h.1, by rw [hl]; exact h.2.1, h.2.2.1, by rw [hl]; exact h.2.2.2.1, hc⟩
/-- A part of a slice that isn't nil. -/
theorem Ex_sliceS (hT : T.Of Γ.P) {D : World → Prop} {t : TypeId} {x : Operand} {lo hi mx : Option Operand} (hop : o.op = .slice t x lo hi mx) {ad : Option Addr} {len cap : Nat} (hx : E.get x = some (.slice ad len cap))
    {b off : Nat} (ha : ad = some ⟨b, off, none⟩) {l h m : Nat} (hl : bnd E lo 0 l) (hh : bnd E hi len h) (hm : bnd E mx cap m) (hmh : mx.isSome = true → hi.isSome = true) {e : TypeId} {s1 s2 : Nat} {z : Value}
    (hy : T.get t = some ⟨.slice e, s1, s2, z⟩) {ye : Ty} (he : T.get e = some ye) {sz : Nat} (hsz : ye.size = sz) (h1 : l ≤ h) (h2 : h ≤ m) (h3 : m ≤ cap) :
    Exact Γ D o E (.slice (some ⟨b, if m = l then off else off + l * sz, none⟩) (h - l) (m - l)) := by
  subst ha hsz
  have := Ex_slice (Γ := Γ) hT hop hx hl hh hm hmh hy he h1 h2 h3 (D := D)
  by_cases hml : m = l
  · simpa [hml] using this
  · simpa [hml, Addr.add_none] using this
/-- A truth by which the way parts, in a region that draws its order. -/
theorem TR_bool {ops : Array Oper} {i : Nat} (hT : T.Of Γ.P) {D : World → Prop} {K' : Act → Prop} {l : List Nat} (ho : opAt ops E i = some o) {b : Bool} (hv : pureV T E o = some (.bool b))
    (h1 : b = true → TR Γ ops D K' l (E.put o.dst (.bool true))) (h2 : b = false → TR Γ ops D K' l (E.put o.dst (.bool false))) : TR Γ ops D K' (i :: l) E :=
  TR_exact ho (Ex_pure hT hv) (by
    cases b with
    | true => exact h1 rfl
    | false => exact h2 rfl)
/-- What comes behind some operations that may come in more than one order is shown once. -/
theorem TA_have {Q : Exit → Act → World → Prop} {I A : HProp} {N fuel fuel' : Nat} {listed listed' : Array Bool} {ι : Type} (φ : ι → Prop) (J : ι → Env) (B : ι → List HProp)
    (h2 : ∀ y, φ y → TA Γ ops Q I N fuel' listed' (J y) (sep (B y))) (h1 : (∀ y, φ y → TA Γ ops Q I N fuel' listed' (J y) (sep (B y))) → TA Γ ops Q I N fuel listed E A) : TA Γ ops Q I N fuel listed E A := h1 h2
theorem TA_use {Q : Exit → Act → World → Prop} {I : HProp} {N fuel : Nat} {listed listed' : Array Bool} {E' : Env} {M L R : List HProp} (h : TA Γ ops Q I N fuel listed' E' (sep M)) (hl : listed = listed') (hE : E.le E') [ht : Takes M L R] :
    TA Γ ops Q I N fuel listed E (sep L) := by
  subst hl
  exact TN.keep M (h.conseq hE (.refl _))
end
end Go.Sl

/-
  The contracts of package field: numbers in the bits of a word.
-/
namespace Go.Sl.Tz
open Go Go.Proofs Go.Sl
set_option maxRecDepth 100000

abbrev iv (x : Int) : Value := .int .i64 x
abbrev uv (x : Nat) : Value := .int .u64 (x : Int)

/-- A field: where it begins, how wide it is. -/
def fldC (f : Nat × Nat) : List Value := [iv f.1, iv f.2]
abbrev fldV (f : Nat × Nat) : Value := .agg #[iv f.1, iv f.2]
def rightF (f : Nat × Nat) : Bool := decide (f.1 < 64) && decide (0 < f.2) && decide (f.1 + f.2 ≤ 64)

theorem right_fn (S : Hp) (f : Nat × Nat) (h1 : f.1 < 2 ^ 62) : FNs S prog F_field_Right #[fldV f] [] (fun (_ : Unit) => .bool (rightF f)) (fun _ => True) (fun _ => []) := by
  refine FNs_of_body func_field_Right rfl ntmps_field_Right rfl ?_
  intro R w0
  refine TC_seq ?_
  refine TC_region ?_
  refine TO_puresN 0 tys_of rfl (TO_cons (TOp_box rfl rfl rfl fun b1 => ?_))
  refine TO_puresN 1 tys_of rfl (TO_nil ?_)
  refine TC_seq ?_
  refine TC_region ?_
  refine TO_puresN 1 tys_of rfl (TO_cons (TOp_exact rfl (Ex_load tys_of rfl rfl rfl lies_find rfl) ?_))
  refine TO_puresN 0 tys_of rfl (TO_cons (TOp_bool tys_of rfl rfl (fun h5 => ?_) (fun h5 => ?_)))
  · refine TO_puresN 2 tys_of rfl (TO_cons (TOp_exact rfl (Ex_load tys_of rfl rfl rfl lies_find rfl) ?_))
    refine TO_puresN 0 tys_of rfl (TO_cons (TOp_bool tys_of rfl rfl (fun h9 => ?_) (fun h9 => ?_)))
    · refine TO_puresN 3 tys_of rfl (TO_cons (TOp_exact rfl (Ex_load tys_of rfl rfl rfl lies_find rfl) ?_))
      refine TO_puresN 0 tys_of rfl (TO_cons (TOp_bool tys_of rfl rfl (fun h14 => ?_) (fun h14 => ?_)))
      · refine TO_puresN 3 tys_of rfl (TO_cons (TOp_exact rfl (Ex_load tys_of rfl rfl rfl lies_find rfl) ?_))
        refine TO_puresN 1 tys_of rfl (TO_cons (TOp_exact rfl (Ex_load tys_of rfl rfl rfl lies_find rfl) ?_))
        refine TO_puresN 4 tys_of rfl (TO_nil ?_)
        refine TC_ret ?_
        repeat (first | refine TN_thenr ?_ | refine TN_blockr ?_)
        refine TN.keep [] ?_
        refine TN_rets tys_of () (.inl rfl) rfl (rs := [.tmp 2]) rfl (vs := [_]) ⟨rfl, trivial⟩ ?_ trivial
        simp only [decide_eq_true_eq] at h5 h9 h14
        have h9' : f.1 < 64 := by omega
        have h14' : 0 < f.2 := by omega
        have e : IntKind.i64.wrap (64 - (f.1 : Int)) = 64 - (f.1 : Int) := wrap_i64 (by omega) (by omega)
        show Value.bool (decide ((f.2 : Int) ≤ IntKind.i64.wrap (64 - (f.1 : Int)))) = .bool (rightF f)
        rw [e]
        simp only [rightF, h9', h14', decide_true, Bool.true_and]
        congr 1
        simp only [decide_eq_decide]
        omega
      · refine TO_puresN 10 tys_of rfl (TO_nil ?_)
        refine TC_ret ?_
        repeat (first | refine TN_thenr ?_ | refine TN_blockr ?_)
        refine TN.keep [] ?_
        refine TN_rets tys_of () (.inl rfl) rfl (rs := [.tmp 2]) rfl (vs := [_]) ⟨rfl, trivial⟩ ?_ trivial
        simp only [decide_eq_false_iff_not] at h14
        simp [retV, rightF, show ¬ 0 < f.2 by omega]
    · refine TO_puresN 15 tys_of rfl (TO_nil ?_)
      refine TC_ret ?_
      repeat (first | refine TN_thenr ?_ | refine TN_blockr ?_)
      refine TN.keep [] ?_
      refine TN_rets tys_of () (.inl rfl) rfl (rs := [.tmp 2]) rfl (vs := [_]) ⟨rfl, trivial⟩ ?_ trivial
      simp only [decide_eq_false_iff_not] at h9
      simp [retV, rightF, show ¬ f.1 < 64 by omega]
  · exfalso
    simp only [decide_eq_false_iff_not] at h5
    omega

/-- The bits of a right field. -/
def maskF (f : Nat × Nat) : Nat := (18446744073709551615 >>> (64 - f.2)) <<< f.1 % 2 ^ 64
theorem rightF_le {f : Nat × Nat} (h : rightF f = true) : f.1 < 64 ∧ 0 < f.2 ∧ f.1 + f.2 ≤ 64 := by
  simpa [rightF, and_assoc] using h
theorem mask_fn (S : Hp) (f : Nat × Nat) (hf : rightF f = true) : FNs S prog F_field_mask #[fldV f] [] (fun (_ : Unit) => uv (maskF f)) (fun _ => True) (fun _ => []) := by
  obtain ⟨h1, h2, h3⟩ := rightF_le hf
  refine FNs_of_body func_field_mask rfl ntmps_field_mask rfl ?_
  intro R w0
  refine TC_seq ?_
  refine TC_region ?_
  refine TO_puresN 0 tys_of rfl (TO_cons (TOp_box rfl rfl rfl fun b1 => ?_))
  refine TO_puresN 1 tys_of rfl (TO_nil ?_)
  refine TC_seq ?_
  have e : IntKind.i64.wrap (64 - (f.2 : Int)) = ((64 - f.2 : Nat) : Int) := by rw [wrap_i64 (by omega) (by omega)]; omega
  refine TC_draw (by kernel_rfl) (sep [cel b1 T_field_Field (fldC f)]) 8 ?_
  refine TA_reads (fuel := 0) [0, 1, 2, 3, 4, 5, 6, 7] rfl (fun _ _ _ h => h) (by decide +kernel) (by decide +kernel) (by decide +kernel) (by decide +kernel) (ent_top _) ?_
  refine TR_puresN 1 tys_of rfl (TR_exact rfl (Ex_load tys_of rfl rfl rfl keep_find rfl) ?_)
  refine TR_puresN 1 tys_of rfl ?_
  rw [e]
  refine (TR_exact rfl (Ex_shr rfl rfl rfl (by omega)) ?_)
  refine TR_puresN 1 tys_of rfl (TR_exact rfl (Ex_load tys_of rfl rfl rfl keep_find rfl) ?_)
  refine TR_puresN 0 tys_of rfl (TR_exact rfl (Ex_shl rfl rfl rfl (by omega)) ?_)
  refine TR_puresN 1 tys_of rfl (TR_done ?_)
  refine TA_nil ?_ (by decide +kernel)
  refine TC_ret ?_
  repeat (first | refine TN_thenr ?_ | refine TN_blockr ?_)
  refine TN.keep [] ?_
  refine TN_rets tys_of () (.inl rfl) rfl (rs := [.tmp 2]) rfl (vs := [_]) ⟨rfl, trivial⟩ ?_ trivial
  have e1 := shr_u64' 18446744073709551615 (64 - f.2) (by omega)
  have e2 := shl_u64 (18446744073709551615 >>> (64 - f.2)) f.1 (by omega)
  rw [← e1] at e2
  exact congrArg (Value.int .u64) e2

/-- The bits of some fields. -/
def allF (l : List (Nat × Nat)) : Nat := l.foldl (fun a f => a ||| maskF f) 0
/-- Fields that are right, and share no bit with each other nor with some bits. -/
def apartF : List (Nat × Nat) → Nat → Bool
  | [], _ => true
  | f :: r, all => rightF f && (all &&& maskF f == 0) && apartF r (all ||| maskF f)
theorem maskF_lt (f : Nat × Nat) : maskF f < 2 ^ 64 := Nat.mod_lt _ (by decide)
theorem fldC_len (f : Nat × Nat) : (fldC f).length = 2 := rfl
theorem allF_lt (l : List (Nat × Nat)) : allF l < 2 ^ 64 := by
  unfold allF
  suffices H : ∀ (l : List (Nat × Nat)) (a : Nat), a < 2 ^ 64 → l.foldl (fun a f => a ||| maskF f) a < 2 ^ 64 from H l 0 (by decide)
  intro l
  induction l with
  | nil => intro a h; exact h
  | cons f r ih => intro a h; exact ih _ (Nat.or_lt_two_pow h (maskF_lt f))
theorem allF_take {l : List (Nat × Nat)} {k : Nat} (hk : k < l.length) : allF (l.take (k + 1)) = allF (l.take k) ||| maskF l[k] := by
  unfold allF
  rw [List.take_succ_eq_append_getElem hk, List.foldl_append]
  rfl

theorem apart_fn (S : Hp) (s : Slc) (l : List (Nat × Nat)) (hl : ∀ f ∈ l, f.1 < 2 ^ 62) (hb : l.length < 2 ^ 32) : FNs S prog F_field_Apart #[s.val] [Row s T_field_Field 2 (l.flatMap fldC)] (fun (_ : Unit) => .bool (apartF l 0)) (fun _ => True)
    (fun _ => [Row s T_field_Field 2 (l.flatMap fldC)]) := by
  refine FNs_of_body func_field_Apart rfl ntmps_field_Apart rfl ?_
  intro R w0
  refine TN.rowlen s fun hn => ?_
  rw [flat_length fldC_len] at hn
  replace hn : l.length = s.n := by omega
  refine TC_seq ?_
  refine TC_region ?_
  refine TO_puresN 1 tys_of rfl (TO_nil ?_)
  refine TC_seq ?_
  refine TC_region ?_
  refine TO_puresN 1 tys_of rfl (TO_nil ?_)
  refine TC_seq ?_
  refine TC_seq ?_
  refine TC_region ?_
  refine TO_puresN 3 tys_of rfl (TO_nil ?_)
  refine TC_block ?_
  refine TC_loopP (fun k => k ≤ l.length ∧ apartF l 0 = apartF (l.drop k) (allF (l.take k))) (fun k => ⟨27, [], [(3, uv (allF (l.take k))), (6, s.val), (7, iv s.n), (8, iv k)]⟩) (fun k => [Row s T_field_Field 2 (l.flatMap fldC)])
    (fun k => l.length - k) 0 ⟨Nat.zero_le _, rfl⟩ (Env.le_of_knows ⟨rfl, rfl, rfl, rfl, trivial⟩) ?_
  rintro k ⟨hk, hap⟩
  refine TC_seq ?_
  refine TC_region ?_
  refine TO_puresN 0 tys_of rfl (TO_cons (TOp_bool tys_of rfl rfl (fun h9 => ?_) (fun h9 => ?_)))
  · have hk' : k < l.length := by simp only [decide_eq_true_eq] at h9; omega
    rw [List.drop_eq_getElem_cons hk'] at hap
    have hall := allF_lt (l.take k)
    have hmk := maskF_lt l[k]
    refine TO_puresN 0 tys_of rfl (TO_nil ?_)
    refine TC_seq ?_
    refine TC_true rfl ?_
    refine TC_skip ?_
    refine TC_seq ?_
    refine TC_block ?_
    refine TC_seq ?_
    refine TC_region ?_
    refine TN.rowopen s (by omega) fun g pre sp ha hrow => ?_
    refine TO_puresN 0 tys_of rfl (TO_cons (TOp_exact rfl (Ex_indexS tys_of rfl rfl ha rfl rfl rfl (by omega)) ?_))
    refine TO_puresN 0 tys_of rfl (TO_cons (TOp_exact rfl (Ex_load tys_of rfl rfl rfl lies_find (loadL_row (loadL_flat rfl fldC_len hk'))) ?_))
    refine TN.rowclose hrow ?_
    refine TO_puresN 0 tys_of rfl (TO_cons (TOp_alloc tys_of rfl rfl rfl fun b5 => ?_))
    refine TO_puresN 0 tys_of rfl (TO_cons (TOp_store tys_of rfl rfl rfl rfl rfl rfl rfl rfl ?_))
    refine TO_puresN 0 tys_of rfl (TO_nil ?_)
    refine TC_seq ?_
    refine TC_seq ?_
    refine TC_region ?_
    refine TO_puresN 0 tys_of rfl (TO_cons (TOp_exact rfl (Ex_load tys_of rfl rfl rfl lies_find rfl) ?_))
    refine TO_puresN 0 tys_of rfl (TO_cons (TOp_calls rfl rfl cl_field_Right (right_fn S l[k] (hl _ (List.getElem_mem hk'))) fun y hy => ?_))
    refine TO_puresN 0 tys_of rfl (TO_cons (TOp_bool tys_of rfl rfl (fun h14 => ?_) (fun h14 => ?_)))
    · refine TO_puresN 7 tys_of rfl (TO_nil ?_)
      refine TC_true rfl ?_
      refine TC_seq ?_
      refine TC_region ?_
      refine TO_puresN 1 tys_of rfl (TO_nil ?_)
      refine TC_ret ?_
      repeat (first | refine TN_thenr ?_ | refine TN_blockr ?_)
      refine TN_rets tys_of () (.inl rfl) rfl (rs := [.tmp 2]) rfl (vs := [_]) ⟨rfl, trivial⟩ ?_ trivial
      simp only [Bool.not_eq_true'] at h14
      rw [hap]
      simp only [apartF, h14, Bool.false_and, retV]
    · simp only [Bool.not_eq_false'] at h14
      refine TO_puresN 2 tys_of rfl (TO_cons (TOp_exact rfl (Ex_load tys_of rfl rfl rfl lies_find rfl) ?_))
      refine TO_puresN 0 tys_of rfl (TO_cons (TOp_calls rfl rfl cl_field_mask (mask_fn S l[k] h14) fun y hy => ?_))
      refine TO_puresN 1 tys_of rfl ?_
      rw [and_u64 _ _ hall hmk]
      refine (TO_cons (TOp_bool tys_of rfl rfl (fun h20 => ?_) (fun h20 => ?_)))
      · refine TO_puresN 1 tys_of rfl (TO_nil ?_)
        refine TC_true rfl ?_
        refine TC_seq ?_
        refine TC_region ?_
        refine TO_puresN 1 tys_of rfl (TO_nil ?_)
        refine TC_ret ?_
        repeat (first | refine TN_thenr ?_ | refine TN_blockr ?_)
        refine TN_rets tys_of () (.inl rfl) rfl (rs := [.tmp 2]) rfl (vs := [_]) ⟨rfl, trivial⟩ ?_ trivial
        have h20' : (allF (l.take k) &&& maskF l[k] == 0) = false := by
          simp only [bne_iff_ne, ne_eq] at h20
          simp only [beq_eq_false_iff_ne, ne_eq]
          omega
        rw [hap]
        simp only [apartF, h14, h20', Bool.and_false, Bool.false_and, retV]
      · refine TO_puresN 1 tys_of rfl (TO_nil ?_)
        refine TC_false rfl ?_
        refine TC_skip ?_
        refine TC_region ?_
        refine TO_puresN 1 tys_of rfl (TO_cons (TOp_exact rfl (Ex_load tys_of rfl rfl rfl lies_find rfl) ?_))
        refine TO_puresN 0 tys_of rfl (TO_cons (TOp_calls rfl rfl cl_field_mask (mask_fn S l[k] h14) fun y hy => ?_))
        refine TO_puresN 2 tys_of rfl ?_
        rw [or_u64 _ _ hall hmk, ← allF_take hk']
        refine (TO_nil ?_)
        refine TC_region ?_
        refine TO_puresN 2 tys_of rfl ?_
        rw [wrap_i64 (by omega) (by omega)]
        refine (TO_nil ?_)
        refine TN_againP (k + 1) ⟨hk', ?_⟩ (by omega) (Env.le_of_knows ⟨rfl, rfl, rfl, rfl, trivial⟩)
        have h20' : (allF (l.take k) &&& maskF l[k] == 0) = true := by
          simp only [bne_eq_false_iff_eq] at h20
          simp only [beq_iff_eq]
          omega
        rw [hap, allF_take hk']
        simp only [apartF, h14, h20', Bool.true_and]
  · refine TO_puresN 0 tys_of rfl (TO_nil ?_)
    refine TC_seq ?_
    refine TC_false rfl ?_
    refine TC_exit ?_
    repeat refine TN_thenx ?_
    refine TN_exit ?_
    refine TC_seq ?_
    refine TC_region ?_
    refine TO_puresN 1 tys_of rfl (TO_nil ?_)
    refine TC_ret ?_
    repeat (first | refine TN_thenr ?_ | refine TN_blockr ?_)
    refine TN_rets tys_of () (.inl rfl) rfl (rs := [.tmp 2]) rfl (vs := [_]) ⟨rfl, trivial⟩ ?_ trivial
    have hk' : l.length ≤ k := by simp only [decide_eq_false_iff_not] at h9; omega
    rw [hap, List.drop_eq_nil_of_le hk']
    rfl
end Go.Sl.Tz

/-
  The contracts of package field, second part. By mk.py out of spec/SlField2.spec.
-/
namespace Go.Sl.Tz
open Go Go.Proofs Go.Sl
set_option maxRecDepth 100000

/-- Some fields' numbers. -/
def unpackF (w : Nat) (l : List (Nat × Nat)) : List Nat := l.map fun f => (w &&& maskF f) >>> f.1
theorem unpackF_take {w : Nat} {l : List (Nat × Nat)} {k : Nat} (hk : k < l.length) : (unpackF w (l.take (k + 1))).map uv = (unpackF w (l.take k)).map uv ++ [uv ((w &&& maskF l[k]) >>> l[k].1)] := by
  unfold unpackF
  rw [List.take_succ_eq_append_getElem hk, List.map_append, List.map_append]
  rfl

theorem unpack_fn (S : Hp) (w : Nat) (hw : w < 2 ^ 64) (s : Slc) (l : List (Nat × Nat)) (hl : ∀ f ∈ l, f.1 < 2 ^ 62) (hb : l.length < 2 ^ 32) (hap : apartF l 0 = true) (hri : ∀ f ∈ l, rightF f = true) :
    FNs S prog F_field_Unpack #[uv w, s.val] [Row s T_field_Field 2 (l.flatMap fldC)] (fun r : Slc => .tuple #[r.val, iv 0]) (fun _ => True)
    (fun r => [Row s T_field_Field 2 (l.flatMap fldC), Row r T_uint64 1 ((unpackF w l).map uv)]) := by
  refine FNs_of_body func_field_Unpack rfl ntmps_field_Unpack rfl ?_
  intro R w0
  refine TN.rowlen s fun hn => ?_
  rw [flat_length fldC_len] at hn
  replace hn : l.length = s.n := by omega
  refine TC_seq ?_
  refine TC_region ?_
  refine TO_puresN 2 tys_of rfl (TO_nil ?_)
  refine TC_seq ?_
  refine TC_seq ?_
  refine TC_region ?_
  refine TO_puresN 1 tys_of rfl (TO_cons (TOp_calls rfl rfl cl_field_Apart (apart_fn _ s l hl hb) fun y10 hy10 => ?_))
  refine TO_puresN 0 tys_of rfl (TO_cons (TOp_bool tys_of rfl rfl (fun h11 => ?_) (fun h11 => ?_)))
  · -- t11 True: (Op.unOp UnOp.not 4 (Operand.tmp 10))
    try simp only [decide_eq_true_eq, decide_eq_false_iff_not, beq_iff_eq, bne_iff_ne, beq_eq_false_iff_ne, bne_eq_false_iff_eq, ne_eq, Bool.not_eq_true', Bool.not_eq_false', Decidable.not_not] at h11
    refine TO_puresN 0 tys_of rfl (TO_nil ?_)
    refine TC_true rfl ?_
    refine TC_seq ?_
    refine TC_region ?_
    refine TO_puresN 2 tys_of rfl (TO_nil ?_)
    refine TC_ret ?_
    repeat (first | refine TN_thenr ?_ | refine TN_blockr ?_)
    rw [hap] at h11; cases h11
  · -- t11 False: (Op.unOp UnOp.not 4 (Operand.tmp 10))
    try simp only [decide_eq_true_eq, decide_eq_false_iff_not, beq_iff_eq, bne_iff_ne, beq_eq_false_iff_ne, bne_eq_false_iff_eq, ne_eq, Bool.not_eq_true', Bool.not_eq_false', Decidable.not_not] at h11
    refine TO_puresN 0 tys_of rfl (TO_nil ?_)
    refine TC_false rfl ?_
    refine TC_skip ?_
    refine TC_seq ?_
    refine TC_region ?_
    refine TO_puresN 1 tys_of rfl ?_
    try refine TN.nilrow T_uint64 1 (xs := (unpackF w (l.take nilS.n)).map uv) rfl ?_
    refine TO_puresN 0 tys_of rfl (TO_nil ?_)
    refine TC_seq ?_
    refine TC_seq ?_
    refine TC_region ?_
    refine TO_puresN 3 tys_of rfl (TO_nil ?_)
    refine TC_block ?_
    -- live: t0 t1 t6 t9 t10 t11 t12 t13 t14 t29
    refine TC_loopP (fun r : Slc => r.n ≤ l.length) (fun r : Slc => ⟨30, [], [(0, uv w), (6, r.val), (12, s.val), (13, iv s.n), (14, iv r.n)]⟩) (fun r : Slc => [Row s T_field_Field 2 (l.flatMap fldC), Row r T_uint64 1 ((unpackF w (l.take r.n)).map uv)]) (fun r : Slc => l.length - r.n) nilS (Nat.zero_le _) (Env.le_of_knows (by repeat first | exact trivial | refine ⟨rfl, ?_⟩)) ?_
    rintro r hr
    refine TC_seq ?_
    refine TC_region ?_
    refine TO_puresN 0 tys_of rfl (TO_cons (TOp_bool tys_of rfl rfl (fun h15 => ?_) (fun h15 => ?_)))
    · -- t15 True: (Op.binOp BinOp.lss 3 (Operand.tmp 14) (Operand.tmp 13) 3)
      try simp only [decide_eq_true_eq, decide_eq_false_iff_not, beq_iff_eq, bne_iff_ne, beq_eq_false_iff_ne, bne_eq_false_iff_eq, ne_eq, Bool.not_eq_true', Bool.not_eq_false', Decidable.not_not] at h15
      refine TO_puresN 0 tys_of rfl (TO_nil ?_)
      refine TC_seq ?_
      refine TC_true rfl ?_
      refine TC_skip ?_
      refine TC_seq ?_
      refine TC_block ?_
      refine TC_seq ?_
      refine TC_region ?_
      have hk' : r.n < l.length := by omega
      refine TN.rowopen s (by omega) fun g pre sp ha hrow => ?_
      refine TO_puresN 0 tys_of rfl (TO_cons (TOp_exact rfl (Ex_indexS (sz := 2) tys_of rfl rfl ha rfl rfl rfl (by omega)) ?_))
      refine TO_puresN 0 tys_of rfl (TO_cons (TOp_exact rfl (Ex_load tys_of rfl rfl rfl lies_find (loadL_row (loadL_flat rfl fldC_len hk'))) ?_))
      refine TN.rowclose hrow ?_
      refine TO_puresN 0 tys_of rfl (TO_cons (TOp_alloc tys_of rfl rfl rfl fun b8 => ?_))
      refine TO_puresN 0 tys_of rfl (TO_cons (TOp_store tys_of rfl rfl rfl rfl rfl rfl rfl rfl ?_))
      refine TN.same b8 (l' := fldC l[r.n]) rfl ?_
      refine TO_puresN 0 tys_of rfl (TO_nil ?_)
      refine TC_draw (by kernel_rfl) (sep [cel b8 T_field_Field (fldC l[r.n])]) 11 ?_
      refine TA_reads (fuel := 6) [0, 1, 2, 5, 6] rfl (fun _ _ _ h => h) (by decide +kernel) (by decide +kernel) (by decide +kernel) (by decide +kernel) ent_takes ?_
      refine TR_puresN 2 tys_of rfl (TR_exact rfl (Ex_load tys_of rfl rfl rfl keep_find rfl) ?_)
      refine TR_puresN 1 tys_of rfl (TR_exact rfl (Ex_load tys_of rfl rfl rfl keep_find rfl) ?_)
      refine TR_puresN 0 tys_of rfl (TR_done ?_)
      refine TA_one (fuel := 5) 3 (by decide +kernel) (TOp_calls rfl rfl cl_field_mask (mask_fn _ l[r.n] (hri _ (List.getElem_mem hk'))) fun y21 hy21 => ?_)
      refine TB_low ent_takes ?_
      refine TA_frees (fuel := 3) [4, 7] rfl (fun _ _ _ h => h) (by decide +kernel) ?_
      refine TR_puresN 1 tys_of rfl ?_
      rw [and_u64 _ _ hw (maskF_lt _)]
      refine TR_puresN 0 tys_of rfl (TR_exact rfl (Ex_shr rfl rfl rfl (by omega)) ?_)
      rw [shr_u64' _ _ (by have := rightF_le (hri _ (List.getElem_mem hk')); omega)]
      refine TR_puresN 0 tys_of rfl (TR_done ?_)
      refine TA_one (fuel := 2) 8 (by decide +kernel) (TOp_buildSliceC tys_of rfl rfl rfl rfl rfl rfl rfl rfl fun b26 => ?_)
      refine TB_low ent_takes ?_
      refine TA_one (fuel := 1) 9 (by decide +kernel) (TOp_append1 (s := r) tys_of rfl rfl rfl rfl rfl rfl rfl rfl rfl rfl (by rfl) rfl rfl rfl rfl rfl (by omega) fun s27 hs27 => ?_)
      refine TN.rowsame s27 (xs' := (unpackF w (l.take s27.n)).map uv) (by rw [hs27, unpackF_take hk']) ?_
      refine TB_low ent_takes ?_
      refine TA_frees (fuel := 0) [10] rfl (fun _ _ _ h => h) (by decide +kernel) ?_
      refine TR_puresN 1 tys_of rfl ?_
      try refine TN.nilrow T_uint64 1 (xs := (unpackF w (l.take nilS.n)).map uv) rfl ?_
      refine TR_puresN 0 tys_of rfl (TR_done ?_)
      refine TA_nil ?_ (by decide +kernel)
      try refine TN_blockn ?_
      refine TC_region ?_
      refine TO_puresN 1 tys_of rfl ?_
      rw [wrap_i64 (by omega) (by omega), show ((r.n : Int) + 1) = (s27.n : Int) by omega]
      refine TO_puresN 1 tys_of rfl (TO_nil ?_)
      refine TN_againP s27 (by omega) (by omega) (Env.le_of_knows (by repeat first | exact trivial | refine ⟨rfl, ?_⟩))
    · -- t15 False: (Op.binOp BinOp.lss 3 (Operand.tmp 14) (Operand.tmp 13) 3)
      try simp only [decide_eq_true_eq, decide_eq_false_iff_not, beq_iff_eq, bne_iff_ne, beq_eq_false_iff_ne, bne_eq_false_iff_eq, ne_eq, Bool.not_eq_true', Bool.not_eq_false', Decidable.not_not] at h15
      refine TO_puresN 0 tys_of rfl (TO_nil ?_)
      refine TC_seq ?_
      refine TC_false rfl ?_
      refine TC_exit ?_
      repeat refine TN_thenx ?_
      refine TN_exit ?_
      refine TC_seq ?_
      refine TC_region ?_
      refine TO_puresN 3 tys_of rfl (TO_nil ?_)
      refine TC_ret ?_
      repeat (first | refine TN_thenr ?_ | refine TN_blockr ?_)
      have hk' : l.length ≤ r.n := by omega
      rw [List.take_of_length_le hk']
      refine TN_rets tys_of r (.inl rfl) rfl (rs := [.tmp 4, .tmp 5]) rfl (vs := [_, _]) ⟨rfl, rfl, trivial⟩ rfl trivial

/-- A contract that leaves the world alone. -/
theorem FNs_of_calls {S : Hp} {P : Program} {f : FuncId} {args : Array Value} {v : Value} (h : ∀ w, Calls P f args w (fun e w' => e = .returned v ∧ w' = w)) : FNs S P f args [] (fun (_ : Unit) => v) (fun _ => True) (fun _ => []) :=
  fun R w hs => (h w).mono fun e w' ⟨he, hw⟩ => ⟨v, he, by
    subst hw
    refine hs.mono (Ent.star (fun x hx => ⟨(), (lift_star _ _ _).2 ⟨⟨rfl, trivial⟩, hx⟩⟩) (.refl _)), by subst hw; exact Kept.refl _⟩
theorem len64_fn (S : Hp) (x : Nat) (hx : x < 2 ^ 64) : FNs S prog F_math_bits_Len64 #[uv x] [] (fun (_ : Unit) => iv (Lib.bitLen x)) (fun _ => True) (fun _ => []) :=
  FNs_of_calls fun w => Tryz.bits_Len64 (x : Int) w (by omega) (by omega)

/-- A word with another number in a field. -/
def putF (w : Nat) (f : Nat × Nat) (x : Nat) : Nat := andNot w (maskF f) ||| (x <<< f.1 % 2 ^ 64)
theorem putF_lt (w : Nat) (f : Nat × Nat) (x : Nat) : putF w f x < 2 ^ 64 := Nat.or_lt_two_pow (andNot_lt _ _) (Nat.mod_lt _ (by decide))
def putR (w : Nat) (f : Nat × Nat) (x : Nat) : Nat × Nat := if f.2 < Lib.bitLen x then (0, 3) else (putF w f x, 0)

theorem put_fn (S : Hp) (w : Nat) (hw : w < 2 ^ 64) (f : Nat × Nat) (hf : rightF f = true) (x : Nat) (hx : x < 2 ^ 64) :
    FNs S prog F_field_Put #[uv w, fldV f, uv x] [] (fun (_ : Unit) => .tuple #[uv (putR w f x).1, iv (putR w f x).2]) (fun _ => True) (fun _ => []) := by
  have hr := rightF_le hf
  refine FNs_of_body func_field_Put rfl ntmps_field_Put rfl ?_
  intro R w0
  refine TC_seq ?_
  refine TC_region ?_
  refine TO_puresN 0 tys_of rfl (TO_cons (TOp_box rfl rfl rfl fun b4 => ?_))
  refine TN.same b4 (l' := fldC f) rfl ?_
  refine TO_puresN 2 tys_of rfl (TO_nil ?_)
  refine TC_seq ?_
  refine TC_block ?_
  refine TC_seq ?_
  refine TC_region ?_
  refine TO_puresN 0 tys_of rfl (TO_cons (TOp_exact rfl (Ex_load tys_of rfl rfl rfl lies_find rfl) ?_))
  refine TO_puresN 0 tys_of rfl (TO_cons (TOp_calls rfl rfl cl_field_Right (right_fn _ f (by omega)) fun y10 hy10 => ?_))
  refine TO_puresN 0 tys_of rfl (TO_cons (TOp_bool tys_of rfl rfl (fun h11 => ?_) (fun h11 => ?_)))
  · -- t11 True: (Op.unOp UnOp.not 4 (Operand.tmp 10))
    try simp only [decide_eq_true_eq, decide_eq_false_iff_not, beq_iff_eq, bne_iff_ne, beq_eq_false_iff_ne, bne_eq_false_iff_eq, ne_eq, Bool.not_eq_true', Bool.not_eq_false', Decidable.not_not] at h11
    refine TO_puresN 1 tys_of rfl (TO_nil ?_)
    refine TC_true rfl ?_
    refine TC_seq ?_
    refine TC_region ?_
    refine TO_puresN 2 tys_of rfl (TO_nil ?_)
    refine TC_ret ?_
    repeat (first | refine TN_thenr ?_ | refine TN_blockr ?_)
    rw [hf] at h11; cases h11
  · -- t11 False: (Op.unOp UnOp.not 4 (Operand.tmp 10))
    try simp only [decide_eq_true_eq, decide_eq_false_iff_not, beq_iff_eq, bne_iff_ne, beq_eq_false_iff_ne, bne_eq_false_iff_eq, ne_eq, Bool.not_eq_true', Bool.not_eq_false', Decidable.not_not] at h11
    refine TO_puresN 1 tys_of rfl (TO_nil ?_)
    refine TC_false rfl ?_
    refine TC_seq ?_
    refine TC_draw (by kernel_rfl) (sep [cel b4 T_field_Field (fldC f)]) 6 ?_
    refine TA_reads (fuel := 3) [0, 2, 3] rfl (fun _ _ _ h => h) (by decide +kernel) (by decide +kernel) (by decide +kernel) (by decide +kernel) ent_takes ?_
    refine TR_puresN 2 tys_of rfl (TR_exact rfl (Ex_load tys_of rfl rfl rfl keep_find rfl) ?_)
    refine TR_puresN 0 tys_of rfl (TR_done ?_)
    refine TA_one (fuel := 2) 1 (by decide +kernel) (TOp_calls rfl rfl cl_math_bits_Len64 (len64_fn _ x hx) fun y14 hy14 => ?_)
    refine TB_low ent_takes ?_
    refine TA_frees (fuel := 0) [4, 5] rfl (fun _ _ _ h => h) (by decide +kernel) ?_
    refine TR_puresN 0 tys_of rfl (TR_bool tys_of rfl rfl (fun h17 => ?_) (fun h17 => ?_))
    · -- t17 True: (Op.binOp BinOp.gtr 3 (Operand.tmp 14) (Operand.tmp 16) 3)
      try simp only [decide_eq_true_eq, decide_eq_false_iff_not, beq_iff_eq, bne_iff_ne, beq_eq_false_iff_ne, bne_eq_false_iff_eq, ne_eq, Bool.not_eq_true', Bool.not_eq_false', Decidable.not_not] at h17
      refine TR_puresN 1 tys_of rfl (TR_done ?_)
      refine TA_nil ?_ (by decide +kernel)
      refine TC_true rfl ?_
      refine TC_seq ?_
      refine TC_region ?_
      refine TO_puresN 2 tys_of rfl (TO_nil ?_)
      refine TC_ret ?_
      repeat (first | refine TN_thenr ?_ | refine TN_blockr ?_)
      refine TN_rets tys_of () (.inl rfl) rfl (rs := [.tmp 6, .tmp 7]) rfl (vs := [_, _]) ⟨rfl, rfl, trivial⟩ (by rw [show putR w f x = (0, 3) from if_pos (by omega)]; rfl) trivial
    · -- t17 False: (Op.binOp BinOp.gtr 3 (Operand.tmp 14) (Operand.tmp 16) 3)
      try simp only [decide_eq_true_eq, decide_eq_false_iff_not, beq_iff_eq, bne_iff_ne, beq_eq_false_iff_ne, bne_eq_false_iff_eq, ne_eq, Bool.not_eq_true', Bool.not_eq_false', Decidable.not_not] at h17
      refine TR_puresN 1 tys_of rfl (TR_done ?_)
      refine TA_nil ?_ (by decide +kernel)
      refine TC_false rfl ?_
      refine TC_skip ?_
      try refine TN_blockn ?_
      refine TC_seq ?_
      refine TC_draw (by kernel_rfl) (sep [cel b4 T_field_Field (fldC f)]) 11 ?_
      refine TA_reads (fuel := 5) [0, 1, 4, 5, 6, 7] rfl (fun _ _ _ h => h) (by decide +kernel) (by decide +kernel) (by decide +kernel) (by decide +kernel) ent_takes ?_
      refine TR_puresN 1 tys_of rfl (TR_exact rfl (Ex_load tys_of rfl rfl rfl keep_find rfl) ?_)
      refine TR_puresN 2 tys_of rfl (TR_exact rfl (Ex_load tys_of rfl rfl rfl keep_find rfl) ?_)
      refine TR_puresN 0 tys_of rfl (TR_exact rfl (Ex_shl rfl rfl rfl (by omega)) ?_)
      rw [shl_u64 _ _ (by omega)]
      refine TR_puresN 0 tys_of rfl (TR_done ?_)
      refine TA_one (fuel := 4) 2 (by decide +kernel) (TOp_calls rfl rfl cl_field_mask (mask_fn _ f hf) fun y20 hy20 => ?_)
      refine TB_low ent_takes ?_
      refine TA_frees (fuel := 0) [3, 8, 9, 10] rfl (fun _ _ _ h => h) (by decide +kernel) ?_
      refine TR_puresN 1 tys_of rfl ?_
      rw [andNot_u64]
      refine TR_puresN 1 tys_of rfl ?_
      rw [or_u64 _ _ (andNot_lt _ _) (Nat.mod_lt _ (by decide))]
      refine TR_puresN 2 tys_of rfl (TR_done ?_)
      refine TA_nil ?_ (by decide +kernel)
      refine TC_ret ?_
      repeat (first | refine TN_thenr ?_ | refine TN_blockr ?_)
      refine TN_rets tys_of () (.inl rfl) rfl (rs := [.tmp 6, .tmp 7]) rfl (vs := [_, _]) ⟨rfl, rfl, trivial⟩ (by rw [show putR w f x = (putF w f x, 0) from if_neg (by omega)]; rfl) trivial

/-- A word of some fields' numbers. -/
def packR : List (Nat × Nat) → List Nat → Nat → Nat × Nat
  | f :: r, x :: xs, w => if f.2 < Lib.bitLen x then (0, 3) else packR r xs (putF w f x)
  | _, _, w => (w, 0)
theorem packR_step {l : List (Nat × Nat)} {xs : List Nat} {k : Nat} (h1 : k < l.length) (h2 : k < xs.length) (w : Nat) :
    packR (l.drop k) (xs.drop k) w = if l[k].2 < Lib.bitLen xs[k] then (0, 3) else packR (l.drop (k + 1)) (xs.drop (k + 1)) (putF w l[k] xs[k]) := by
  rw [List.drop_eq_getElem_cons h1, List.drop_eq_getElem_cons h2]
  rfl

theorem pack_fn (S : Hp) (s q : Slc) (l : List (Nat × Nat)) (xs : List Nat) (hx : ∀ x ∈ xs, x < 2 ^ 64) (hl : ∀ f ∈ l, f.1 < 2 ^ 62) (hb : l.length < 2 ^ 32) (hap : apartF l 0 = true) (hri : ∀ f ∈ l, rightF f = true) (hlen : l.length = xs.length) :
    FNs S prog F_field_Pack #[s.val, q.val] [Row s T_field_Field 2 (l.flatMap fldC), Row q T_uint64 1 (xs.map uv)] (fun (_ : Unit) => .tuple #[uv (packR l xs 0).1, iv (packR l xs 0).2]) (fun _ => True)
    (fun _ => [Row s T_field_Field 2 (l.flatMap fldC), Row q T_uint64 1 (xs.map uv)]) := by
  refine FNs_of_body func_field_Pack rfl ntmps_field_Pack rfl ?_
  intro R w0
  refine TN.rowlen s fun hn => ?_
  rw [flat_length fldC_len] at hn
  replace hn : l.length = s.n := by omega
  refine TN.rowlen q fun hq => ?_
  replace hq : xs.length = q.n := by simpa using hq
  refine TC_seq ?_
  refine TC_region ?_
  refine TO_puresN 2 tys_of rfl (TO_nil ?_)
  refine TC_seq ?_
  refine TC_seq ?_
  refine TC_region ?_
  refine TO_puresN 4 tys_of rfl (TO_cons (TOp_bool tys_of rfl rfl (fun h14 => ?_) (fun h14 => ?_)))
  · -- t14 True: (Op.binOp BinOp.neq 3 (Operand.tmp 11) (Operand.tmp 13) 3)
    try simp only [decide_eq_true_eq, decide_eq_false_iff_not, beq_iff_eq, bne_iff_ne, beq_eq_false_iff_ne, bne_eq_false_iff_eq, ne_eq, Bool.not_eq_true', Bool.not_eq_false', Decidable.not_not] at h14
    refine TO_puresN 5 tys_of rfl (TO_nil ?_)
    refine TC_true rfl ?_
    refine TC_seq ?_
    refine TC_region ?_
    refine TO_puresN 2 tys_of rfl (TO_nil ?_)
    refine TC_ret ?_
    repeat (first | refine TN_thenr ?_ | refine TN_blockr ?_)
    exfalso; omega
  · -- t14 False: (Op.binOp BinOp.neq 3 (Operand.tmp 11) (Operand.tmp 13) 3)
    try simp only [decide_eq_true_eq, decide_eq_false_iff_not, beq_iff_eq, bne_iff_ne, beq_eq_false_iff_ne, bne_eq_false_iff_eq, ne_eq, Bool.not_eq_true', Bool.not_eq_false', Decidable.not_not] at h14
    refine TO_puresN 2 tys_of rfl (TO_cons (TOp_calls rfl rfl cl_field_Apart (apart_fn _ s l hl hb) fun y17 hy17 => ?_))
    refine TO_puresN 0 tys_of rfl (TO_cons (TOp_bool tys_of rfl rfl (fun h18 => ?_) (fun h18 => ?_)))
    · -- t18 True: (Op.unOp UnOp.not 4 (Operand.tmp 17))
      try simp only [decide_eq_true_eq, decide_eq_false_iff_not, beq_iff_eq, bne_iff_ne, beq_eq_false_iff_ne, bne_eq_false_iff_eq, ne_eq, Bool.not_eq_true', Bool.not_eq_false', Decidable.not_not] at h18
      refine TO_puresN 1 tys_of rfl (TO_nil ?_)
      refine TC_true rfl ?_
      refine TC_seq ?_
      refine TC_region ?_
      refine TO_puresN 2 tys_of rfl (TO_nil ?_)
      refine TC_ret ?_
      repeat (first | refine TN_thenr ?_ | refine TN_blockr ?_)
      rw [hap] at h18; cases h18
    · -- t18 False: (Op.unOp UnOp.not 4 (Operand.tmp 17))
      try simp only [decide_eq_true_eq, decide_eq_false_iff_not, beq_iff_eq, bne_iff_ne, beq_eq_false_iff_ne, bne_eq_false_iff_eq, ne_eq, Bool.not_eq_true', Bool.not_eq_false', Decidable.not_not] at h18
      refine TO_puresN 1 tys_of rfl (TO_nil ?_)
      refine TC_false rfl ?_
      refine TC_skip ?_
      refine TC_seq ?_
      refine TC_region ?_
      refine TO_puresN 1 tys_of rfl (TO_nil ?_)
      refine TC_seq ?_
      refine TC_seq ?_
      refine TC_region ?_
      refine TO_puresN 3 tys_of rfl (TO_nil ?_)
      refine TC_block ?_
      -- live: t0 t1 t6 t10 t11 t12 t13 t14 t15 t16 t17 t18 t19 t20 t21 t22 t41
      refine TC_loopP (fun x : Nat × Nat => x.1 ≤ l.length ∧ x.2 < 2 ^ 64 ∧ packR l xs 0 = packR (l.drop x.1) (xs.drop x.1) x.2) (fun x : Nat × Nat => ⟨42, [], [(1, q.val), (6, uv x.2), (20, s.val), (21, iv s.n), (22, iv x.1)]⟩) (fun x : Nat × Nat => [Row s T_field_Field 2 (l.flatMap fldC), Row q T_uint64 1 (xs.map uv)]) (fun x : Nat × Nat => l.length - x.1) (0, 0) ⟨Nat.zero_le _, by decide, rfl⟩ (Env.le_of_knows (by repeat first | exact trivial | refine ⟨rfl, ?_⟩)) ?_
      rintro ⟨k, w⟩ ⟨hk, hw, hp⟩
      dsimp only at *
      refine TC_seq ?_
      refine TC_region ?_
      refine TO_puresN 0 tys_of rfl (TO_cons (TOp_bool tys_of rfl rfl (fun h23 => ?_) (fun h23 => ?_)))
      · -- t23 True: (Op.binOp BinOp.lss 3 (Operand.tmp 22) (Operand.tmp 21) 3)
        try simp only [decide_eq_true_eq, decide_eq_false_iff_not, beq_iff_eq, bne_iff_ne, beq_eq_false_iff_ne, bne_eq_false_iff_eq, ne_eq, Bool.not_eq_true', Bool.not_eq_false', Decidable.not_not] at h23
        refine TO_puresN 0 tys_of rfl (TO_nil ?_)
        refine TC_seq ?_
        refine TC_true rfl ?_
        refine TC_skip ?_
        refine TC_seq ?_
        refine TC_block ?_
        refine TC_seq ?_
        refine TC_region ?_
        have hk' : k < l.length := by omega
        rw [packR_step hk' (by omega)] at hp
        refine TN.rowopen s (by omega) fun g pre sp ha hrow => ?_
        refine TO_puresN 1 tys_of rfl (TO_cons (TOp_exact rfl (Ex_indexS (sz := 2) tys_of rfl rfl ha rfl rfl rfl (by omega)) ?_))
        refine TO_puresN 0 tys_of rfl (TO_cons (TOp_exact rfl (Ex_load tys_of rfl rfl rfl lies_find (loadL_row (loadL_flat rfl fldC_len hk'))) ?_))
        refine TN.rowclose hrow ?_
        refine TO_puresN 0 tys_of rfl (TO_cons (TOp_alloc tys_of rfl rfl rfl fun b8 => ?_))
        refine TO_puresN 1 tys_of rfl (TO_cons (TOp_store tys_of rfl rfl rfl rfl rfl rfl rfl rfl ?_))
        refine TO_puresN 0 tys_of rfl (TO_nil ?_)
        refine TC_seq ?_
        refine TC_region ?_
        refine TO_puresN 1 tys_of rfl (TO_nil ?_)
        refine TC_seq ?_
        refine TN.same b8 (l' := fldC l[k]) rfl ?_
        refine TN.rowopen q (by omega) fun g2 pre2 sp2 ha2 hrow2 => ?_
        refine TC_draw (by kernel_rfl) (sep [cel b8 T_field_Field (fldC l[k]), cel g2 T_uint64 (pre2 ++ (xs.map uv ++ sp2))]) 12 ?_
        refine TA_reads (fuel := 6) [0, 1, 2, 3, 4, 5] rfl (fun _ _ _ h => h) (by decide +kernel) (by decide +kernel) (by decide +kernel) (by decide +kernel) ent_takes ?_
        refine TR_puresN 1 tys_of rfl (TR_exact rfl (Ex_load tys_of rfl rfl rfl keep_find rfl) ?_)
        refine TR_puresN 2 tys_of rfl (TR_exact rfl (Ex_indexS (sz := 1) tys_of rfl rfl ha2 rfl rfl rfl (by omega)) ?_)
        refine TR_puresN 0 tys_of rfl (TR_exact rfl (Ex_load tys_of rfl rfl rfl keep_find (loadL_row (loadL_one rfl (v := uv xs[k]) (by rw [List.getElem?_map, List.getElem?_eq_getElem (by omega)]; rfl)))) ?_)
        refine TR_puresN 0 tys_of rfl (TR_done ?_)
        refine TA_one (fuel := 5) 6 (by decide +kernel) (TOp_calls rfl rfl cl_field_Put (put_fn _ w hw l[k] (hri _ (List.getElem_mem hk')) xs[k] (hx _ (List.getElem_mem _))) fun y34 hy34 => ?_)
        refine TB_low ent_takes ?_
        refine TA_frees (fuel := 0) [7, 8, 9, 10, 11] rfl (fun _ _ _ h => h) (by decide +kernel) ?_
        refine TR_puresN 5 tys_of rfl (TR_done ?_)
        refine TA_nil ?_ (by decide +kernel)
        refine TC_seq ?_
        refine TC_region ?_
        refine TO_puresN 1 tys_of rfl (TO_cons (TOp_bool tys_of rfl rfl (fun h38 => ?_) (fun h38 => ?_)))
        · -- t38 True: (Op.binOp BinOp.neq 40 (Operand.tmp 37) (Operand.const (Value.int IntKind.i64 0)) 40)
          try simp only [decide_eq_true_eq, decide_eq_false_iff_not, beq_iff_eq, bne_iff_ne, beq_eq_false_iff_ne, bne_eq_false_iff_eq, ne_eq, Bool.not_eq_true', Bool.not_eq_false', Decidable.not_not] at h38
          refine TO_puresN 0 tys_of rfl (TO_nil ?_)
          refine TC_true rfl ?_
          refine TC_seq ?_
          refine TC_region ?_
          refine TO_puresN 3 tys_of rfl (TO_nil ?_)
          refine TC_ret ?_
          repeat (first | refine TN_thenr ?_ | refine TN_blockr ?_)
          refine TN.rowclose hrow2 ?_
          have hlt : l[k].2 < Lib.bitLen xs[k] := by unfold putR at h38; split at h38; assumption; exact absurd rfl h38
          rw [if_pos hlt] at hp
          refine TN_rets tys_of () (.inl rfl) rfl (rs := [.tmp 4, .tmp 5]) rfl (vs := [_, _]) ⟨rfl, rfl, trivial⟩ (by rw [hp, show putR w l[k] xs[k] = (0, 3) from if_pos hlt]; rfl) trivial
        · -- t38 False: (Op.binOp BinOp.neq 40 (Operand.tmp 37) (Operand.const (Value.int IntKind.i64 0)) 40)
          try simp only [decide_eq_true_eq, decide_eq_false_iff_not, beq_iff_eq, bne_iff_ne, beq_eq_false_iff_ne, bne_eq_false_iff_eq, ne_eq, Bool.not_eq_true', Bool.not_eq_false', Decidable.not_not] at h38
          refine TO_puresN 0 tys_of rfl (TO_nil ?_)
          refine TC_false rfl ?_
          refine TC_skip ?_
          try refine TN_blockn ?_
          refine TC_region ?_
          refine TO_puresN 1 tys_of rfl ?_
          try rw [wrap_i64 (by omega) (by omega)]
          refine TO_puresN 1 tys_of rfl (TO_nil ?_)
          refine TN.rowclose hrow2 ?_
          have hlt : ¬ l[k].2 < Lib.bitLen xs[k] := fun hc => by rw [show putR w l[k] xs[k] = (0, 3) from if_pos hc] at h38; simp at h38
          rw [if_neg hlt] at hp
          rw [show putR w l[k] xs[k] = (putF w l[k] xs[k], 0) from if_neg hlt]
          refine TN_againP (x := (k, w)) (k + 1, putF w l[k] xs[k]) ⟨hk', putF_lt _ _ _, hp⟩ (by omega) (Env.le_of_knows (by repeat first | exact trivial | refine ⟨rfl, ?_⟩))
      · -- t23 False: (Op.binOp BinOp.lss 3 (Operand.tmp 22) (Operand.tmp 21) 3)
        try simp only [decide_eq_true_eq, decide_eq_false_iff_not, beq_iff_eq, bne_iff_ne, beq_eq_false_iff_ne, bne_eq_false_iff_eq, ne_eq, Bool.not_eq_true', Bool.not_eq_false', Decidable.not_not] at h23
        refine TO_puresN 0 tys_of rfl (TO_nil ?_)
        refine TC_seq ?_
        refine TC_false rfl ?_
        refine TC_exit ?_
        repeat refine TN_thenx ?_
        refine TN_exit ?_
        refine TC_seq ?_
        refine TC_region ?_
        refine TO_puresN 3 tys_of rfl (TO_nil ?_)
        refine TC_ret ?_
        repeat (first | refine TN_thenr ?_ | refine TN_blockr ?_)
        rw [List.drop_eq_nil_of_le (by omega)] at hp
        refine TN_rets tys_of () (.inl rfl) rfl (rs := [.tmp 4, .tmp 5]) rfl (vs := [_, _]) ⟨rfl, rfl, trivial⟩ (by rw [hp]; rfl) trivial
end Go.Sl.Tz

/-
  The contracts of package layout. By mk.py out of spec/SlLayout.spec.
-/
namespace Go.Sl.Tz
open Go Go.Proofs Go.Sl
set_option maxRecDepth 100000

/-- The library's table, in its variable. -/
def Tab (S : Hp) : Prop := ∃ cs t fr, S 0 = some (.cells cs t fr) ∧ ∀ j, j < 64 → cs.toList[j]? = some (.int .u8 (Lib.deBruijn64tab.getD j 0 : Nat))

theorem neg_u64 (x : Nat) (h0 : x ≠ 0) (hx : x < 2 ^ 64) : IntKind.u64.wrap (0 - (x : Int)) = ((2 ^ 64 - x : Nat) : Int) := by rw [IntKind.wrap_u64]; omega
theorem mul_u64 (a b : Nat) : IntKind.u64.wrap ((a : Int) * (b : Int)) = ((a * b % 2 ^ 64 : Nat) : Int) := by
  rw [← Int.natCast_mul, wrap_u64_mod]

theorem tz_key (x k : Nat) (h0 : x ≠ 0) (hx : x < 2 ^ 64) (hlow : x &&& (18446744073709551616 - x) = 2 ^ k) :
    (IntKind.u64.wrap (IntKind.u64.wrap ((BitVec.ofInt IntKind.u64.bits (x : Int) &&& BitVec.ofInt IntKind.u64.bits (IntKind.u64.wrap (0 - (x : Int)))).toNat : Int) * 285870213051353865)).fdiv (2 ^ min 58 IntKind.u64.bits) =
      ((2 ^ k * 285870213051353865 % 18446744073709551616 / 288230376151711744 : Nat) : Int) := by
  rw [neg_u64 x h0 hx, and_u64 _ _ hx (by omega), show (285870213051353865 : Int) = ((285870213051353865 : Nat) : Int) from rfl, mul_u64, show min 58 IntKind.u64.bits = 58 from rfl, shr_u64, Nat.shiftRight_eq_div_pow]
  rw [show (2 : Nat) ^ 64 = 18446744073709551616 from rfl, hlow]

theorem ctz_fn (S : Hp) (hS : Tab S) (x : Nat) (hx : x < 2 ^ 64) : FNs S prog F_math_bits_TrailingZeros64 #[uv x] [] (fun (_ : Unit) => iv (Lib.ctz 64 x)) (fun _ => True) (fun _ => []) := by
  obtain ⟨cs, ct, cf, hS0, hcs⟩ := hS
  refine FNs_of_body func_math_bits_TrailingZeros64 rfl ntmps_math_bits_TrailingZeros64 rfl ?_
  intro R w0
  refine TC_seq ?_
  refine TC_region ?_
  refine TO_puresN 1 tys_of rfl (TO_nil ?_)
  refine TC_seq ?_
  refine TC_seq ?_
  refine TC_region ?_
  refine TO_puresN 1 tys_of rfl (TO_cons (TOp_bool tys_of rfl rfl (fun h4 => ?_) (fun h4 => ?_)))
  · -- t4 True: (Op.binOp BinOp.eql 62 (Operand.tmp 3) (Operand.const (Value.int IntKind.u64 0)) 62)
    try simp only [decide_eq_true_eq, decide_eq_false_iff_not, beq_iff_eq, bne_iff_ne, beq_eq_false_iff_ne, bne_eq_false_iff_eq, ne_eq, Bool.not_eq_true', Bool.not_eq_false', Decidable.not_not] at h4
    refine TO_puresN 0 tys_of rfl (TO_nil ?_)
    refine TC_true rfl ?_
    refine TC_seq ?_
    refine TC_region ?_
    refine TO_puresN 1 tys_of rfl (TO_nil ?_)
    refine TC_ret ?_
    repeat (first | refine TN_thenr ?_ | refine TN_blockr ?_)
    have h4 : x = 0 := by omega
    subst h4
    refine TN_rets tys_of () (.inl rfl) rfl (rs := [.tmp 2]) rfl (vs := [_]) ⟨rfl, trivial⟩ rfl trivial
  · -- t4 False: (Op.binOp BinOp.eql 62 (Operand.tmp 3) (Operand.const (Value.int IntKind.u64 0)) 62)
    try simp only [decide_eq_true_eq, decide_eq_false_iff_not, beq_iff_eq, bne_iff_ne, beq_eq_false_iff_ne, bne_eq_false_iff_eq, ne_eq, Bool.not_eq_true', Bool.not_eq_false', Decidable.not_not] at h4
    have hne : x ≠ 0 := by omega
    obtain ⟨hlow, hk⟩ := Lib.lowest_bit 64 x hne hx
    obtain ⟨hi, htab⟩ := Lib.deBruijn64_at _ hk
    refine TO_puresN 0 tys_of rfl (TO_nil ?_)
    refine TC_false rfl ?_
    refine TC_skip ?_
    refine TC_seq ?_
    refine TC_region ?_
    refine TO_puresN 6 tys_of rfl ?_
    rw [tz_key x _ hne hx hlow]
    refine TO_puresN 0 tys_of rfl (TO_cons (TOp_exact rfl (Ex_indexA tys_of rfl rfl rfl rfl rfl hi) ?_))
    refine TO_puresN 0 tys_of rfl (TO_cons (TOp_exact rfl (Ex_load tys_of rfl rfl rfl (lies_read hS0) (loadL_one rfl ((congrArg _ (Nat.zero_add _)).trans (hcs _ hi)))) ?_))
    refine TO_puresN 2 tys_of rfl (TO_nil ?_)
    refine TC_ret ?_
    repeat (first | refine TN_thenr ?_ | refine TN_blockr ?_)
    refine TN_rets tys_of () (.inl rfl) rfl (rs := [.tmp 2]) rfl (vs := [_]) ⟨rfl, trivial⟩ (by rw [htab]; show Value.int .i64 (IntKind.i64.wrap ((Lib.ctz 64 x : Nat) : Int)) = _; rw [wrap_i64 (by omega) (by omega)]) trivial

/-- The fields of a layout's first word. -/
def sizesF : List (Nat × Nat) := [(0, 8), (8, 8), (16, 48)]
theorem sizes_fn (S : Hp) : FNs S prog F_layout_sizes #[] [] (fun r : Slc => r.val) (fun _ => True) (fun r => [Row r T_field_Field 2 (sizesF.flatMap fldC)]) := by
  refine FNs_of_body func_layout_sizes rfl ntmps_layout_sizes rfl ?_
  intro R w0
  refine TC_seq ?_
  refine TC_region ?_
  refine TO_puresN 1 tys_of rfl (TO_nil ?_)
  refine TC_seq ?_
  refine TC_region ?_
  refine TO_puresN 3 tys_of rfl (TO_cons (TOp_buildSliceA tys_of rfl rfl rfl rfl rfl rfl rfl (cells := ([iv 0, iv 8, iv 8, iv 8, iv 16, iv 48])) rfl fun b4 => ?_))
  refine TO_puresN 1 tys_of rfl (TO_nil ?_)
  refine TC_ret ?_
  repeat (first | refine TN_thenr ?_ | refine TN_blockr ?_)
  refine TN.rownew b4 3 2 (sizesF.flatMap fldC) rfl rfl rfl ?_
  refine TN_rets tys_of ⟨some ⟨b4, 0, none⟩, 3, 3⟩ (.inl rfl) rfl (rs := [.tmp 0]) rfl (vs := [_]) ⟨rfl, trivial⟩ rfl trivial

/-! ### The bits that are on -/
def spreadL (w : Nat) : List Nat := (List.range 64).filter fun j => w.testBit j
theorem low_clear {w : Nat} (h0 : w ≠ 0) (hx : w < 2 ^ 64) (j : Nat) : (w &&& (w - 1)).testBit j = (w.testBit j && decide (j ≠ Lib.ctz 64 w)) := by
  obtain ⟨m, hm, hk⟩ := Lib.ctzFrom_spec 64 w (by omega) hx
  have hc : Lib.ctz 64 w = Lib.ctzFrom 64 w := by unfold Lib.ctz; rw [if_neg h0]
  rw [hc]
  generalize Lib.ctzFrom 64 w = k at *
  have hp : 0 < 2 ^ k := Nat.two_pow_pos k
  have h1 : w = 2 ^ (k + 1) * m + 2 ^ k := by rw [hm, Nat.pow_succ, Nat.mul_add, Nat.mul_one, Nat.mul_assoc]
  have h2 : w - 1 = 2 ^ (k + 1) * m + (2 ^ k - 1) := by omega
  have hlt : 2 ^ k < 2 ^ (k + 1) := Nat.pow_lt_pow_right (by decide) (by omega)
  rw [Nat.testBit_and, h2]
  conv => lhs; arg 1; rw [h1]
  conv => rhs; arg 1; rw [h1]
  rw [Nat.testBit_two_pow_mul_add _ hlt, Nat.testBit_two_pow_mul_add _ (by omega)]
  by_cases hj : j < k + 1
  · simp only [hj, if_true, Nat.testBit_two_pow, Nat.testBit_two_pow_sub_one]
    by_cases hjk : j = k
    · subst hjk; simp
    · simp [Ne.symm hjk]
  · have : j ≠ k := by omega
    simp [hj, this]
theorem spreadL_zero : spreadL 0 = [] := by decide
theorem spreadL_step {w : Nat} (h0 : w ≠ 0) (hx : w < 2 ^ 64) : spreadL w = Lib.ctz 64 w :: spreadL (w &&& (w - 1)) := by
  obtain ⟨hk, hbit, hlow⟩ := ctz_spec h0 hx
  have hr : List.range 64 = List.range (Lib.ctz 64 w) ++ (Lib.ctz 64 w :: ((List.range (63 - Lib.ctz 64 w)).map fun i => Lib.ctz 64 w + (i + 1))) := by
    conv => lhs; rw [show 64 = Lib.ctz 64 w + ((63 - Lib.ctz 64 w) + 1) by omega, List.range_add, List.range_succ_eq_map]
    simp
  have e1 : ∀ j ∈ List.range (Lib.ctz 64 w), w.testBit j = false := fun j hj => hlow j (List.mem_range.1 hj)
  unfold spreadL
  rw [hr, List.filter_append, List.filter_append, List.filter_cons, List.filter_cons]
  have f1 : (List.range (Lib.ctz 64 w)).filter (fun j => w.testBit j) = [] := List.filter_eq_nil_iff.2 fun j hj => by rw [e1 j hj]; simp
  have f2 : (List.range (Lib.ctz 64 w)).filter (fun j => (w &&& (w - 1)).testBit j) = [] := List.filter_eq_nil_iff.2 fun j hj => by rw [low_clear h0 hx, e1 j hj]; simp
  rw [f1, f2]
  rw [if_pos hbit, if_neg (by rw [low_clear h0 hx]; simp)]
  simp only [List.nil_append]
  congr 1
  refine List.filter_congr fun j hj => ?_
  have : Lib.ctz 64 w + 1 ≤ j := by
    obtain ⟨i, _, rfl⟩ := List.mem_map.1 hj
    omega
  rw [low_clear h0 hx]
  simp; intro; omega
theorem spreadL_len (w : Nat) : (spreadL w).length ≤ 64 := by
  unfold spreadL
  exact Nat.le_trans (List.length_filter_le _ _) (by simp)

theorem sub_u64_one {w : Nat} (h0 : w ≠ 0) (hx : w < 2 ^ 64) : IntKind.u64.wrap ((w : Int) - 1) = ((w - 1 : Nat) : Int) := by rw [IntKind.wrap_u64]; omega

theorem spread_fn (S : Hp) (hS : Tab S) (w : Nat) (hw : w < 2 ^ 64) : FNs S prog F_layout_spread #[uv w] [] (fun r : Slc => r.val) (fun _ => True) (fun r => [Row r T_int 1 ((spreadL w).map fun p => iv (p : Nat))]) := by
  refine FNs_of_body func_layout_spread rfl ntmps_layout_spread rfl ?_
  intro R w0
  refine TN.nilrow T_int 1 (xs := (([] : List Nat).map fun p => iv (p : Nat))) rfl ?_
  refine TC_seq ?_
  refine TC_region ?_
  refine TO_puresN 1 tys_of rfl (TO_nil ?_)
  refine TC_seq ?_
  refine TC_region ?_
  refine TO_puresN 1 tys_of rfl (TO_nil ?_)
  refine TC_seq ?_
  refine TC_block ?_
  -- live: t0 t3 t15
  refine TC_loopP (fun x : Nat × Slc × List Nat => x.1 < 2 ^ 64 ∧ spreadL w = x.2.2 ++ spreadL x.1 ∧ x.2.1.n = x.2.2.length) (fun x : Nat × Slc × List Nat => ⟨16, [], [(0, uv x.1), (3, x.2.1.val)]⟩) (fun x : Nat × Slc × List Nat => [Row x.2.1 T_int 1 (x.2.2.map fun p => iv (p : Nat))]) (fun x : Nat × Slc × List Nat => x.1) (w, nilS, []) ⟨hw, rfl, rfl⟩ (Env.le_of_knows (by repeat first | exact trivial | refine ⟨rfl, ?_⟩)) ?_
  rintro ⟨v, r, xs⟩ ⟨hv, hs, hn⟩
  dsimp only at *
  refine TC_seq ?_
  refine TC_seq ?_
  refine TC_region ?_
  refine TO_puresN 1 tys_of rfl (TO_cons (TOp_bool tys_of rfl rfl (fun h5 => ?_) (fun h5 => ?_)))
  · -- t5 True: (Op.binOp BinOp.neq 62 (Operand.tmp 4) (Operand.const (Value.int IntKind.u64 0)) 62)
    try simp only [decide_eq_true_eq, decide_eq_false_iff_not, beq_iff_eq, bne_iff_ne, beq_eq_false_iff_ne, bne_eq_false_iff_eq, ne_eq, Bool.not_eq_true', Bool.not_eq_false', Decidable.not_not] at h5
    refine TO_puresN 0 tys_of rfl (TO_nil ?_)
    refine TC_true rfl ?_
    refine TC_skip ?_
    refine TC_seq ?_
    refine TC_block ?_
    refine TC_region ?_
    refine TO_puresN 2 tys_of rfl (TO_cons (TOp_calls rfl rfl cl_math_bits_TrailingZeros64 (ctz_fn _ hS v hv) fun y12 hy12 => ?_))
    refine TO_puresN 0 tys_of rfl (TO_cons (TOp_buildSliceC tys_of rfl rfl rfl rfl rfl rfl rfl rfl fun b13 => ?_))
    have hlen := spreadL_len w
    rw [hs, List.length_append] at hlen
    refine TO_puresN 0 tys_of rfl (TO_cons (TOp_append1 (s := r) tys_of rfl rfl rfl rfl rfl rfl rfl rfl rfl rfl (by rfl) rfl rfl rfl rfl rfl (by omega) fun s14 hs14 => ?_))
    refine TN.rowsame s14 (xs' := ((xs ++ [Lib.ctz 64 v]).map fun p => iv (p : Nat))) (by simp) ?_
    refine TO_puresN 1 tys_of rfl (TO_nil ?_)
    try refine TN_blockn ?_
    refine TC_region ?_
    refine TO_puresN 3 tys_of rfl ?_
    rw [sub_u64_one (by omega) hv]
    refine TO_puresN 1 tys_of rfl ?_
    rw [and_u64 _ _ hv (by omega)]
    refine TO_puresN 1 tys_of rfl (TO_nil ?_)
    have h0 : v ≠ 0 := by omega
    refine TN_againP (x := (v, r, xs)) (v &&& (v - 1), s14, xs ++ [Lib.ctz 64 v]) ⟨Nat.lt_of_le_of_lt Nat.and_le_left hv, by rw [hs, spreadL_step h0 hv]; simp, by rw [hs14, hn]; simp⟩ (by have := Nat.and_le_right (n := v) (m := v - 1); show v &&& (v - 1) < v; omega) (Env.le_of_knows (by repeat first | exact trivial | refine ⟨rfl, ?_⟩))
  · -- t5 False: (Op.binOp BinOp.neq 62 (Operand.tmp 4) (Operand.const (Value.int IntKind.u64 0)) 62)
    try simp only [decide_eq_true_eq, decide_eq_false_iff_not, beq_iff_eq, bne_iff_ne, beq_eq_false_iff_ne, bne_eq_false_iff_eq, ne_eq, Bool.not_eq_true', Bool.not_eq_false', Decidable.not_not] at h5
    refine TO_puresN 0 tys_of rfl (TO_nil ?_)
    refine TC_false rfl ?_
    refine TC_exit ?_
    repeat refine TN_thenx ?_
    refine TN_exit ?_
    refine TC_seq ?_
    refine TC_region ?_
    refine TO_puresN 2 tys_of rfl (TO_nil ?_)
    refine TC_ret ?_
    repeat (first | refine TN_thenr ?_ | refine TN_blockr ?_)
    have h0 : v = 0 := by omega
    subst h0
    rw [spreadL_zero, List.append_nil] at hs
    rw [hs]
    refine TN_rets tys_of r (.inl rfl) rfl (rs := [.tmp 2]) rfl (vs := [_]) ⟨rfl, trivial⟩ rfl trivial

/-! ### Right layouts -/
def okAt (l : List Int) (size : Int) (k : Nat) : Bool := decide (0 ≤ l.getD k 0) && decide (l.getD k 0 < size) && (k == 0 || decide (l.getD (k - 1) 0 < l.getD k 0))
def risesM (l : List Int) (size : Int) : Bool := (List.range l.length).all (okAt l size)
theorem risesM_true {l : List Int} {size : Int} (h : ∀ j, j < l.length → okAt l size j = true) : risesM l size = true := List.all_eq_true.2 fun j hj => h j (List.mem_range.1 hj)
theorem risesM_false {l : List Int} {size : Int} {k : Nat} (hk : k < l.length) (h : okAt l size k = false) : risesM l size = false := by
  rw [← Bool.not_eq_true]
  intro hc
  rw [List.all_eq_true.1 hc k (List.mem_range.2 hk)] at h
  cases h
theorem getD_lt {l : List Int} {k : Nat} (hk : k < l.length) : l.getD k 0 = l[k] := by simp [List.getD, hk]

theorem rises_fn (S : Hp) (s : Slc) (l : List Int) (hb : l.length < 2 ^ 32) (size : Int) : FNs S prog F_layout_rises #[s.val, iv size] [Row s T_int 1 (l.map iv)] (fun (_ : Unit) => .bool (risesM l size)) (fun _ => True)
    (fun _ => [Row s T_int 1 (l.map iv)]) := by
  refine FNs_of_body func_layout_rises rfl ntmps_layout_rises rfl ?_
  intro R w0
  refine TN.rowlen s fun hn => ?_
  replace hn : l.length = s.n := by simpa using hn
  refine TC_seq ?_
  refine TC_region ?_
  refine TO_puresN 1 tys_of rfl (TO_nil ?_)
  refine TC_seq ?_
  refine TC_seq ?_
  refine TC_region ?_
  refine TO_puresN 3 tys_of rfl (TO_nil ?_)
  refine TC_block ?_
  -- live: t0 t1 t7 t8 t9
  refine TC_loopP (fun k => k ≤ l.length ∧ ∀ j, j < k → okAt l size j = true) (fun k => ⟨35, [], [(0, s.val), (1, iv size), (7, s.val), (8, iv s.n), (9, iv k)]⟩) (fun k => [Row s T_int 1 (l.map iv)]) (fun k => l.length - k) 0 ⟨Nat.zero_le _, fun j hj => absurd hj (Nat.not_lt_zero j)⟩ (Env.le_of_knows (by repeat first | exact trivial | refine ⟨rfl, ?_⟩)) ?_
  rintro k ⟨hk, hall⟩
  refine TC_seq ?_
  refine TC_region ?_
  refine TO_puresN 0 tys_of rfl (TO_cons (TOp_bool tys_of rfl rfl (fun h10 => ?_) (fun h10 => ?_)))
  · -- t10 True: (Op.binOp BinOp.lss 3 (Operand.tmp 9) (Operand.tmp 8) 3)
    try simp only [decide_eq_true_eq, decide_eq_false_iff_not, beq_iff_eq, bne_iff_ne, beq_eq_false_iff_ne, bne_eq_false_iff_eq, ne_eq, Bool.not_eq_true', Bool.not_eq_false', Decidable.not_not] at h10
    refine TO_puresN 0 tys_of rfl (TO_nil ?_)
    refine TC_seq ?_
    refine TC_true rfl ?_
    refine TC_skip ?_
    refine TC_seq ?_
    refine TC_block ?_
    refine TC_seq ?_
    refine TC_region ?_
    have hk' : k < l.length := by omega
    refine TN.rowopen s (by omega) fun g pre sp ha hrow => ?_
    refine TO_puresN 1 tys_of rfl (TO_cons (TOp_exact rfl (Ex_indexS (sz := 1) tys_of rfl rfl ha rfl rfl rfl (by omega)) ?_))
    refine TO_puresN 0 tys_of rfl (TO_cons (TOp_exact rfl (Ex_load tys_of rfl rfl rfl lies_find (loadL_row (loadL_one rfl (v := iv l[k]) (by rw [List.getElem?_map, List.getElem?_eq_getElem hk']; rfl)))) ?_))
    refine TN.rowclose hrow ?_
    have hg := getD_lt hk'
    refine TO_puresN 2 tys_of rfl (TO_nil ?_)
    refine TC_seq ?_
    refine TC_region ?_
    refine TO_puresN 1 tys_of rfl (TO_cons (TOp_bool tys_of rfl rfl (fun h15 => ?_) (fun h15 => ?_)))
    · -- t15 True: (Op.binOp BinOp.lss 3 (Operand.tmp 14) (Operand.const (Value.int IntKind.i64 0)) 3)
      try simp only [decide_eq_true_eq, decide_eq_false_iff_not, beq_iff_eq, bne_iff_ne, beq_eq_false_iff_ne, bne_eq_false_iff_eq, ne_eq, Bool.not_eq_true', Bool.not_eq_false', Decidable.not_not] at h15
      refine TO_puresN 18 tys_of rfl (TO_nil ?_)
      refine TC_true rfl ?_
      refine TC_seq ?_
      refine TC_region ?_
      refine TO_puresN 1 tys_of rfl (TO_nil ?_)
      refine TC_ret ?_
      repeat (first | refine TN_thenr ?_ | refine TN_blockr ?_)
      refine TN_rets tys_of () (.inl rfl) rfl (rs := [.tmp 4]) rfl (vs := [_]) ⟨rfl, trivial⟩ (by rw [risesM_false hk' (by simp only [okAt, hg]; simp; omega)]; rfl) trivial
    · -- t15 False: (Op.binOp BinOp.lss 3 (Operand.tmp 14) (Operand.const (Value.int IntKind.i64 0)) 3)
      try simp only [decide_eq_true_eq, decide_eq_false_iff_not, beq_iff_eq, bne_iff_ne, beq_eq_false_iff_ne, bne_eq_false_iff_eq, ne_eq, Bool.not_eq_true', Bool.not_eq_false', Decidable.not_not] at h15
      refine TO_puresN 3 tys_of rfl (TO_cons (TOp_bool tys_of rfl rfl (fun h19 => ?_) (fun h19 => ?_)))
      · -- t19 True: (Op.binOp BinOp.geq 3 (Operand.tmp 17) (Operand.tmp 18) 3)
        try simp only [decide_eq_true_eq, decide_eq_false_iff_not, beq_iff_eq, bne_iff_ne, beq_eq_false_iff_ne, bne_eq_false_iff_eq, ne_eq, Bool.not_eq_true', Bool.not_eq_false', Decidable.not_not] at h19
        refine TO_puresN 14 tys_of rfl (TO_nil ?_)
        refine TC_true rfl ?_
        refine TC_seq ?_
        refine TC_region ?_
        refine TO_puresN 1 tys_of rfl (TO_nil ?_)
        refine TC_ret ?_
        repeat (first | refine TN_thenr ?_ | refine TN_blockr ?_)
        refine TN_rets tys_of () (.inl rfl) rfl (rs := [.tmp 4]) rfl (vs := [_]) ⟨rfl, trivial⟩ (by rw [risesM_false hk' (by simp only [okAt, hg]; simp; omega)]; rfl) trivial
      · -- t19 False: (Op.binOp BinOp.geq 3 (Operand.tmp 17) (Operand.tmp 18) 3)
        try simp only [decide_eq_true_eq, decide_eq_false_iff_not, beq_iff_eq, bne_iff_ne, beq_eq_false_iff_ne, bne_eq_false_iff_eq, ne_eq, Bool.not_eq_true', Bool.not_eq_false', Decidable.not_not] at h19
        refine TO_puresN 3 tys_of rfl (TO_cons (TOp_bool tys_of rfl rfl (fun h23 => ?_) (fun h23 => ?_)))
        · -- t23 True: (Op.binOp BinOp.gtr 3 (Operand.tmp 22) (Operand.const (Value.int IntKind.i64 0)) 3)
          try simp only [decide_eq_true_eq, decide_eq_false_iff_not, beq_iff_eq, bne_iff_ne, beq_eq_false_iff_ne, bne_eq_false_iff_eq, ne_eq, Bool.not_eq_true', Bool.not_eq_false', Decidable.not_not] at h23
          refine TO_puresN 5 tys_of rfl ?_
          rw [wrap_i64 (by omega) (by omega), show ((k : Int) - 1) = ((k - 1 : Nat) : Int) by omega]
          refine TN.rowopen s (by omega) fun g pre sp ha hrow => ?_
          refine TO_puresN 0 tys_of rfl (TO_cons (TOp_exact rfl (Ex_indexS (sz := 1) tys_of rfl rfl ha rfl rfl rfl (by omega)) ?_))
          refine TO_puresN 0 tys_of rfl (TO_cons (TOp_exact rfl (Ex_load tys_of rfl rfl rfl lies_find (loadL_row (loadL_one rfl (v := iv l[k - 1]) (by rw [List.getElem?_map, List.getElem?_eq_getElem (by omega)]; rfl)))) ?_))
          refine TN.rowclose hrow ?_
          have hg2 := getD_lt (l := l) (k := k - 1) (by omega)
          refine TO_puresN 0 tys_of rfl (TO_cons (TOp_bool tys_of rfl rfl (fun h31 => ?_) (fun h31 => ?_)))
          · -- t31 True: (Op.binOp BinOp.leq 3 (Operand.tmp 25) (Operand.tmp 30) 3)
            try simp only [decide_eq_true_eq, decide_eq_false_iff_not, beq_iff_eq, bne_iff_ne, beq_eq_false_iff_ne, bne_eq_false_iff_eq, ne_eq, Bool.not_eq_true', Bool.not_eq_false', Decidable.not_not] at h31
            refine TO_puresN 2 tys_of rfl (TO_nil ?_)
            refine TC_true rfl ?_
            refine TC_seq ?_
            refine TC_region ?_
            refine TO_puresN 1 tys_of rfl (TO_nil ?_)
            refine TC_ret ?_
            repeat (first | refine TN_thenr ?_ | refine TN_blockr ?_)
            refine TN_rets tys_of () (.inl rfl) rfl (rs := [.tmp 4]) rfl (vs := [_]) ⟨rfl, trivial⟩ (by rw [risesM_false hk' (by simp only [okAt, hg, hg2]; simp; omega)]; rfl) trivial
          · -- t31 False: (Op.binOp BinOp.leq 3 (Operand.tmp 25) (Operand.tmp 30) 3)
            try simp only [decide_eq_true_eq, decide_eq_false_iff_not, beq_iff_eq, bne_iff_ne, beq_eq_false_iff_ne, bne_eq_false_iff_eq, ne_eq, Bool.not_eq_true', Bool.not_eq_false', Decidable.not_not] at h31
            refine TO_puresN 2 tys_of rfl (TO_nil ?_)
            refine TC_false rfl ?_
            refine TC_skip ?_
            try refine TN_blockn ?_
            refine TC_region ?_
            refine TO_puresN 1 tys_of rfl ?_
            try rw [wrap_i64 (by omega) (by omega)]
            refine TO_puresN 1 tys_of rfl (TO_nil ?_)
            refine TN_againP (k + 1) ⟨hk', fun j hj => by rcases Nat.lt_succ_iff_lt_or_eq.1 hj with h | rfl; exact hall j h; simp only [okAt, hg, hg2]; simp; omega⟩ (by omega) (Env.le_of_knows (by repeat first | exact trivial | refine ⟨rfl, ?_⟩))
        · -- t23 False: (Op.binOp BinOp.gtr 3 (Operand.tmp 22) (Operand.const (Value.int IntKind.i64 0)) 3)
          try simp only [decide_eq_true_eq, decide_eq_false_iff_not, beq_iff_eq, bne_iff_ne, beq_eq_false_iff_ne, bne_eq_false_iff_eq, ne_eq, Bool.not_eq_true', Bool.not_eq_false', Decidable.not_not] at h23
          refine TO_puresN 10 tys_of rfl (TO_nil ?_)
          refine TC_false rfl ?_
          refine TC_skip ?_
          try refine TN_blockn ?_
          refine TC_region ?_
          refine TO_puresN 1 tys_of rfl ?_
          try rw [wrap_i64 (by omega) (by omega)]
          refine TO_puresN 1 tys_of rfl (TO_nil ?_)
          refine TN_againP (k + 1) ⟨hk', fun j hj => by rcases Nat.lt_succ_iff_lt_or_eq.1 hj with h | rfl; exact hall j h; simp only [okAt, hg]; simp; omega⟩ (by omega) (Env.le_of_knows (by repeat first | exact trivial | refine ⟨rfl, ?_⟩))
  · -- t10 False: (Op.binOp BinOp.lss 3 (Operand.tmp 9) (Operand.tmp 8) 3)
    try simp only [decide_eq_true_eq, decide_eq_false_iff_not, beq_iff_eq, bne_iff_ne, beq_eq_false_iff_ne, bne_eq_false_iff_eq, ne_eq, Bool.not_eq_true', Bool.not_eq_false', Decidable.not_not] at h10
    refine TO_puresN 0 tys_of rfl (TO_nil ?_)
    refine TC_seq ?_
    refine TC_false rfl ?_
    refine TC_exit ?_
    repeat refine TN_thenx ?_
    refine TN_exit ?_
    refine TC_seq ?_
    refine TC_region ?_
    refine TO_puresN 1 tys_of rfl (TO_nil ?_)
    refine TC_ret ?_
    repeat (first | refine TN_thenr ?_ | refine TN_blockr ?_)
    refine TN_rets tys_of () (.inl rfl) rfl (rs := [.tmp 4]) rfl (vs := [_]) ⟨rfl, trivial⟩ (by rw [risesM_true fun j hj => hall j (by omega)]; rfl) trivial

/-! ### Layouts -/
structure Lay where
  fixed : Int
  refs : List Int
  record : Int
  recRefs : List Int
def lay0 : Lay := ⟨0, [], 0, []⟩
abbrev layV (l : Lay) (a b : Slc) : Value := .agg #[iv l.fixed, a.val, iv l.record, b.val]
abbrev layC (l : Lay) (a b : Slc) : List Value := [iv l.fixed, a.val, iv l.record, b.val]
abbrev LayR (l : Lay) (a b : Slc) : List HProp := [Row a T_int 1 (l.refs.map iv), Row b T_int 1 (l.recRefs.map iv)]
def rightM (l : Lay) : Bool := decide (0 ≤ l.fixed) && decide (l.fixed ≤ 64) && decide (0 ≤ l.record) && decide (l.record ≤ 64) && !decide (l.fixed + l.record = 0) && risesM l.refs l.fixed && risesM l.recRefs l.record
structure LayB (l : Lay) : Prop where
  refs : l.refs.length < 2 ^ 32
  recRefs : l.recRefs.length < 2 ^ 32

theorem right_layout_fn (S : Hp) (l : Lay) (hl : LayB l) (a b : Slc) : FNs S prog F_layout_Right #[layV l a b] (LayR l a b) (fun (_ : Unit) => .bool (rightM l)) (fun _ => True) (fun _ => LayR l a b) := by
  refine FNs_of_body func_layout_Right rfl ntmps_layout_Right rfl ?_
  intro R w0
  refine TC_seq ?_
  refine TC_region ?_
  refine TO_puresN 0 tys_of rfl (TO_cons (TOp_box rfl rfl rfl fun b1 => ?_))
  refine TN.same b1 (l' := layC l a b) rfl ?_
  refine TO_puresN 1 tys_of rfl (TO_nil ?_)
  refine TC_seq ?_
  refine TC_block ?_
  refine TC_seq ?_
  refine TC_seq ?_
  refine TC_region ?_
  refine TO_puresN 1 tys_of rfl (TO_cons (TOp_exact rfl (Ex_load tys_of rfl rfl rfl lies_find rfl) ?_))
  refine TO_puresN 0 tys_of rfl (TO_cons (TOp_bool tys_of rfl rfl (fun h6 => ?_) (fun h6 => ?_)))
  · -- t6 True: (Op.binOp BinOp.lss 3 (Operand.tmp 5) (Operand.const (Value.int IntKind.i64 0)) 3)
    try simp only [decide_eq_true_eq, decide_eq_false_iff_not, beq_iff_eq, bne_iff_ne, beq_eq_false_iff_ne, bne_eq_false_iff_eq, ne_eq, Bool.not_eq_true', Bool.not_eq_false', Decidable.not_not] at h6
    refine TO_puresN 6 tys_of rfl (TO_nil ?_)
    refine TC_true rfl ?_
    refine TC_skip ?_
    refine TC_true rfl ?_
    refine TC_seq ?_
    refine TC_region ?_
    refine TO_puresN 1 tys_of rfl (TO_nil ?_)
    refine TC_ret ?_
    repeat (first | refine TN_thenr ?_ | refine TN_blockr ?_)
    refine TN_rets tys_of () (.inl rfl) rfl (rs := [.tmp 2]) rfl (vs := [_]) ⟨rfl, trivial⟩ (by simp only [rightM, show ¬ (0 ≤ l.fixed) by omega]; rfl) trivial
  · -- t6 False: (Op.binOp BinOp.lss 3 (Operand.tmp 5) (Operand.const (Value.int IntKind.i64 0)) 3)
    try simp only [decide_eq_true_eq, decide_eq_false_iff_not, beq_iff_eq, bne_iff_ne, beq_eq_false_iff_ne, bne_eq_false_iff_eq, ne_eq, Bool.not_eq_true', Bool.not_eq_false', Decidable.not_not] at h6
    refine TO_puresN 2 tys_of rfl (TO_cons (TOp_exact rfl (Ex_load tys_of rfl rfl rfl lies_find rfl) ?_))
    refine TO_puresN 0 tys_of rfl (TO_cons (TOp_bool tys_of rfl rfl (fun h10 => ?_) (fun h10 => ?_)))
    · -- t10 True: (Op.binOp BinOp.gtr 3 (Operand.tmp 9) (Operand.const (Value.int IntKind.i64 64)) 3)
      try simp only [decide_eq_true_eq, decide_eq_false_iff_not, beq_iff_eq, bne_iff_ne, beq_eq_false_iff_ne, bne_eq_false_iff_eq, ne_eq, Bool.not_eq_true', Bool.not_eq_false', Decidable.not_not] at h10
      refine TO_puresN 2 tys_of rfl (TO_nil ?_)
      refine TC_true rfl ?_
      refine TC_skip ?_
      refine TC_true rfl ?_
      refine TC_seq ?_
      refine TC_region ?_
      refine TO_puresN 1 tys_of rfl (TO_nil ?_)
      refine TC_ret ?_
      repeat (first | refine TN_thenr ?_ | refine TN_blockr ?_)
      refine TN_rets tys_of () (.inl rfl) rfl (rs := [.tmp 2]) rfl (vs := [_]) ⟨rfl, trivial⟩ (by simp only [rightM, show ¬ (l.fixed ≤ 64) by omega]; simp [retV]) trivial
    · -- t10 False: (Op.binOp BinOp.gtr 3 (Operand.tmp 9) (Operand.const (Value.int IntKind.i64 64)) 3)
      try simp only [decide_eq_true_eq, decide_eq_false_iff_not, beq_iff_eq, bne_iff_ne, beq_eq_false_iff_ne, bne_eq_false_iff_eq, ne_eq, Bool.not_eq_true', Bool.not_eq_false', Decidable.not_not] at h10
      refine TO_puresN 2 tys_of rfl (TO_nil ?_)
      refine TC_false rfl ?_
      refine TC_seq ?_
      refine TC_region ?_
      refine TO_puresN 1 tys_of rfl (TO_cons (TOp_exact rfl (Ex_load tys_of rfl rfl rfl lies_find rfl) ?_))
      refine TO_puresN 0 tys_of rfl (TO_cons (TOp_bool tys_of rfl rfl (fun h14 => ?_) (fun h14 => ?_)))
      · -- t14 True: (Op.binOp BinOp.lss 3 (Operand.tmp 13) (Operand.const (Value.int IntKind.i64 0)) 3)
        try simp only [decide_eq_true_eq, decide_eq_false_iff_not, beq_iff_eq, bne_iff_ne, beq_eq_false_iff_ne, bne_eq_false_iff_eq, ne_eq, Bool.not_eq_true', Bool.not_eq_false', Decidable.not_not] at h14
        refine TO_puresN 6 tys_of rfl (TO_nil ?_)
        refine TC_true rfl ?_
        refine TC_skip ?_
        refine TC_true rfl ?_
        refine TC_seq ?_
        refine TC_region ?_
        refine TO_puresN 1 tys_of rfl (TO_nil ?_)
        refine TC_ret ?_
        repeat (first | refine TN_thenr ?_ | refine TN_blockr ?_)
        refine TN_rets tys_of () (.inl rfl) rfl (rs := [.tmp 2]) rfl (vs := [_]) ⟨rfl, trivial⟩ (by simp only [rightM, show ¬ (0 ≤ l.record) by omega]; simp [retV]) trivial
      · -- t14 False: (Op.binOp BinOp.lss 3 (Operand.tmp 13) (Operand.const (Value.int IntKind.i64 0)) 3)
        try simp only [decide_eq_true_eq, decide_eq_false_iff_not, beq_iff_eq, bne_iff_ne, beq_eq_false_iff_ne, bne_eq_false_iff_eq, ne_eq, Bool.not_eq_true', Bool.not_eq_false', Decidable.not_not] at h14
        refine TO_puresN 2 tys_of rfl (TO_cons (TOp_exact rfl (Ex_load tys_of rfl rfl rfl lies_find rfl) ?_))
        refine TO_puresN 0 tys_of rfl (TO_cons (TOp_bool tys_of rfl rfl (fun h18 => ?_) (fun h18 => ?_)))
        · -- t18 True: (Op.binOp BinOp.gtr 3 (Operand.tmp 17) (Operand.const (Value.int IntKind.i64 64)) 3)
          try simp only [decide_eq_true_eq, decide_eq_false_iff_not, beq_iff_eq, bne_iff_ne, beq_eq_false_iff_ne, bne_eq_false_iff_eq, ne_eq, Bool.not_eq_true', Bool.not_eq_false', Decidable.not_not] at h18
          refine TO_puresN 2 tys_of rfl (TO_nil ?_)
          refine TC_true rfl ?_
          refine TC_skip ?_
          refine TC_true rfl ?_
          refine TC_seq ?_
          refine TC_region ?_
          refine TO_puresN 1 tys_of rfl (TO_nil ?_)
          refine TC_ret ?_
          repeat (first | refine TN_thenr ?_ | refine TN_blockr ?_)
          refine TN_rets tys_of () (.inl rfl) rfl (rs := [.tmp 2]) rfl (vs := [_]) ⟨rfl, trivial⟩ (by simp only [rightM, show ¬ (l.record ≤ 64) by omega]; simp [retV]) trivial
        · -- t18 False: (Op.binOp BinOp.gtr 3 (Operand.tmp 17) (Operand.const (Value.int IntKind.i64 64)) 3)
          try simp only [decide_eq_true_eq, decide_eq_false_iff_not, beq_iff_eq, bne_iff_ne, beq_eq_false_iff_ne, bne_eq_false_iff_eq, ne_eq, Bool.not_eq_true', Bool.not_eq_false', Decidable.not_not] at h18
          refine TO_puresN 2 tys_of rfl (TO_nil ?_)
          refine TC_false rfl ?_
          refine TC_region ?_
          refine TO_puresN 1 tys_of rfl (TO_cons (TOp_exact rfl (Ex_load tys_of rfl rfl rfl lies_find rfl) ?_))
          refine TO_puresN 1 tys_of rfl (TO_cons (TOp_exact rfl (Ex_load tys_of rfl rfl rfl lies_find rfl) ?_))
          refine TO_puresN 1 tys_of rfl ?_
          rw [wrap_i64 (by omega) (by omega)]
          refine TO_puresN 0 tys_of rfl (TO_cons (TOp_bool tys_of rfl rfl (fun h25 => ?_) (fun h25 => ?_)))
          · -- t25 True: (Op.binOp BinOp.eql 3 (Operand.tmp 24) (Operand.const (Value.int IntKind.i64 0)) 3)
            try simp only [decide_eq_true_eq, decide_eq_false_iff_not, beq_iff_eq, bne_iff_ne, beq_eq_false_iff_ne, bne_eq_false_iff_eq, ne_eq, Bool.not_eq_true', Bool.not_eq_false', Decidable.not_not] at h25
            refine TO_puresN 1 tys_of rfl (TO_nil ?_)
            refine TC_true rfl ?_
            refine TC_seq ?_
            refine TC_region ?_
            refine TO_puresN 1 tys_of rfl (TO_nil ?_)
            refine TC_ret ?_
            repeat (first | refine TN_thenr ?_ | refine TN_blockr ?_)
            refine TN_rets tys_of () (.inl rfl) rfl (rs := [.tmp 2]) rfl (vs := [_]) ⟨rfl, trivial⟩ (by simp only [rightM, show l.fixed + l.record = 0 by omega]; simp [retV]) trivial
          · -- t25 False: (Op.binOp BinOp.eql 3 (Operand.tmp 24) (Operand.const (Value.int IntKind.i64 0)) 3)
            try simp only [decide_eq_true_eq, decide_eq_false_iff_not, beq_iff_eq, bne_iff_ne, beq_eq_false_iff_ne, bne_eq_false_iff_eq, ne_eq, Bool.not_eq_true', Bool.not_eq_false', Decidable.not_not] at h25
            refine TO_puresN 1 tys_of rfl (TO_nil ?_)
            refine TC_false rfl ?_
            refine TC_skip ?_
            try refine TN_blockn ?_
            refine TC_seq ?_
            refine TC_region ?_
            refine TO_puresN 1 tys_of rfl (TO_cons (TOp_exact rfl (Ex_load tys_of rfl rfl rfl lies_find rfl) ?_))
            refine TO_puresN 1 tys_of rfl (TO_cons (TOp_exact rfl (Ex_load tys_of rfl rfl rfl lies_find rfl) ?_))
            refine TO_puresN 0 tys_of rfl (TO_cons (TOp_calls rfl rfl cl_layout_rises (rises_fn _ a l.refs hl.refs l.fixed) fun y30 hy30 => ?_))
            refine TO_puresN 0 tys_of rfl (TO_cons (TOp_bool tys_of rfl rfl (fun h31 => ?_) (fun h31 => ?_)))
            · -- t31 True: (Op.move (Operand.tmp 30))
              try simp only [decide_eq_true_eq, decide_eq_false_iff_not, beq_iff_eq, bne_iff_ne, beq_eq_false_iff_ne, bne_eq_false_iff_eq, ne_eq, Bool.not_eq_true', Bool.not_eq_false', Decidable.not_not] at h31
              refine TO_puresN 1 tys_of rfl (TO_cons (TOp_exact rfl (Ex_load tys_of rfl rfl rfl lies_find rfl) ?_))
              refine TO_puresN 1 tys_of rfl (TO_cons (TOp_exact rfl (Ex_load tys_of rfl rfl rfl lies_find rfl) ?_))
              refine TO_puresN 0 tys_of rfl (TO_cons (TOp_calls rfl rfl cl_layout_rises (rises_fn _ b l.recRefs hl.recRefs l.record) fun y36 hy36 => ?_))
              refine TO_puresN 2 tys_of rfl (TO_nil ?_)
              refine TC_ret ?_
              repeat (first | refine TN_thenr ?_ | refine TN_blockr ?_)
              refine TN_rets tys_of () (.inl rfl) rfl (rs := [.tmp 2]) rfl (vs := [_]) ⟨rfl, trivial⟩ (by simp only [rightM, h31]; simp [retV]; omega) trivial
            · -- t31 False: (Op.move (Operand.tmp 30))
              try simp only [decide_eq_true_eq, decide_eq_false_iff_not, beq_iff_eq, bne_iff_ne, beq_eq_false_iff_ne, bne_eq_false_iff_eq, ne_eq, Bool.not_eq_true', Bool.not_eq_false', Decidable.not_not] at h31
              refine TO_puresN 7 tys_of rfl (TO_nil ?_)
              refine TC_ret ?_
              repeat (first | refine TN_thenr ?_ | refine TN_blockr ?_)
              refine TN_rets tys_of () (.inl rfl) rfl (rs := [.tmp 2]) rfl (vs := [_]) ⟨rfl, trivial⟩ (by simp only [rightM, h31]; simp [retV]) trivial
end Go.Sl.Tz

/-
  The contracts of package bitmap.
-/
namespace Go.Sl.Tz
open Go Go.Proofs Go.Sl
set_option maxRecDepth 100000

/-! ### What a bitmap has -/
def wordN (l : List Bool) (j : Nat) : Nat := bitsNat (fun k => l.getD (64 * j + k) false) 64
def wordsOf (l : List Bool) : List Value := (List.range ((l.length + 63) / 64)).map fun j => .int .u64 (wordN l j : Nat)
def ofInt (n : Nat) : Value := .int .i64 n
/-- At p there is a bitmap whose places are as l says. -/
def Bmp (p : Nat) (l : List Bool) : HProp := Pack (fun (_ : Nat) => 1 ≤ l.length ∧ l.length ≤ 1048576) fun q =>
  [cel p T_bitmap_Map [.int .i64 l.length, .slice (some ⟨q, 0, none⟩) ((l.length + 63) / 64) ((l.length + 63) / 64), .int .i64 (l.count true)], cel q T_uint64 (wordsOf l)]

theorem len_fn (S : Hp) (p : Nat) (l : List Bool) : FNs S prog F_bitmap_Map_Len #[.pointer (some ⟨p, 0, none⟩)] [Bmp p l] (fun (_ : Unit) => .int .i64 l.length) (fun _ => True) (fun _ => [Bmp p l]) := by
  refine FNs.unpack fun q hl => ?_
  refine FNs_of_body func_bitmap_Map_Len rfl ntmps_bitmap_Map_Len rfl ?_
  intro R w0
  refine TC_seq ?_
  refine TC_region ?_
  refine TO_puresN 1 tys_of rfl (TO_nil ?_)
  refine TC_seq ?_
  refine TC_seq ?_
  refine TC_region ?_
  refine TO_puresN 2 tys_of rfl (TO_nil ?_)
  refine TC_false rfl ?_
  refine TC_skip ?_
  refine TC_seq ?_
  refine TC_region ?_
  refine TO_puresN 3 tys_of rfl (TO_cons (TOp_exact rfl (Ex_load tys_of rfl rfl rfl lies_find rfl) ?_))
  refine TO_puresN 1 tys_of rfl (TO_nil ?_)
  refine TC_ret ?_
  repeat (first | refine TN_thenr ?_ | refine TN_blockr ?_)
  refine TN.fold (Bmp p l) (ent_pack q hl) ?_
  exact TN_rets tys_of () (.inl rfl) rfl (rs := [.tmp 2]) rfl (vs := [_]) ⟨rfl, trivial⟩ rfl trivial

theorem wordsOf_get {l : List Bool} {j : Nat} (h : j < (l.length + 63) / 64) : (wordsOf l)[j]? = some (.int .u64 (wordN l j : Nat)) := by
  unfold wordsOf
  rw [List.getElem?_map, List.getElem?_range h]; rfl
theorem wordN_lt (l : List Bool) (j : Nat) : wordN l j < 2 ^ 64 := bitsNat_lt _ _
theorem wordN_bit (l : List Bool) (i : Nat) : (wordN l (i / 64)).testBit (i % 64) = l.getD i false := by
  unfold wordN
  rw [testBit_bitsNat]
  have h1 : i % 64 < 64 := Nat.mod_lt _ (by decide)
  have h2 : 64 * (i / 64) + i % 64 = i := Nat.div_add_mod i 64
  simp [h1, h2]
/-- (w >> k) & 1 == 1 -/
theorem bit_test (w k : Nat) (hw : w < 2 ^ 64) : (IntKind.u64.wrap ((BitVec.ofInt IntKind.u64.bits (((w >>> k : Nat)) : Int) &&& BitVec.ofInt IntKind.u64.bits 1).toNat : Int) == 1) = w.testBit k := by
  have h1 : w >>> k < 2 ^ 64 := by
    rw [Nat.shiftRight_eq_div_pow]
    exact Nat.lt_of_le_of_lt (Nat.div_le_self _ _) hw
  have := and_u64 (w >>> k) 1 h1 (by decide)
  rw [show ((1 : Nat) : Int) = 1 from rfl] at this
  rw [this, Nat.testBit, Nat.and_comm]
  have h2 : (1 &&& w >>> k) = 0 ∨ (1 &&& w >>> k) = 1 := by
    rw [Nat.and_comm, Nat.and_one_is_mod]; omega
  rcases h2 with h | h <;> rw [h] <;> rfl

def hasB (l : List Bool) (i : Int) : Bool := decide (i ≥ 0) && l.getD i.toNat false

theorem has_fn (S : Hp) (p : Nat) (l : List Bool) (i : Int) : FNs S prog F_bitmap_Map_Has #[.pointer (some ⟨p, 0, none⟩), .int .i64 i] [Bmp p l] (fun (_ : Unit) => .bool (hasB l i)) (fun _ => True) (fun _ => [Bmp p l]) := by
  refine FNs_of_body func_bitmap_Map_Has rfl ntmps_bitmap_Map_Has rfl ?_
  intro R w0
  refine TC_seq ?_
  refine TC_region ?_
  refine TO_puresN 1 tys_of rfl (TO_nil ?_)
  refine TC_seq ?_
  refine TC_region ?_
  refine TO_puresN 1 tys_of rfl (TO_cons (TOp_bool tys_of rfl rfl (fun h6 => ?_) (fun h6 => ?_)))
  · have h0 : 0 ≤ i := by simpa using h6
    refine TO_puresN 3 tys_of rfl (TO_cons (TOp_calls rfl rfl cl_bitmap_Map_Len (len_fn S p l) fun y hy => ?_))
    refine TO_puresN 0 tys_of rfl (TO_cons (TOp_bool tys_of rfl rfl (fun h11 => ?_) (fun h11 => ?_)))
    · have hlt : i < l.length := by simpa using h11
      obtain ⟨k, rfl⟩ : ∃ k : Nat, i = (k : Int) := ⟨i.toNat, by omega⟩
      have hk : k < l.length := by omega
      refine TN.unpack fun q hl => ?_
      refine TO_puresN 5 tys_of rfl (TO_cons (TOp_exact rfl (Ex_load tys_of rfl rfl rfl lies_find rfl) ?_))
      refine TO_puresN 2 tys_of rfl ?_
      rw [quo_nat k 63 (by omega)]
      refine TO_cons (TOp_exact rfl (Ex_index1 tys_of rfl rfl rfl rfl rfl rfl (by omega)) ?_)
      refine TO_puresN 0 tys_of rfl (TO_cons (TOp_exact rfl (Ex_load tys_of rfl rfl rfl lies_find (load0 rfl (wordsOf_get (by omega)))) ?_))
      refine TO_puresN 2 tys_of rfl ?_
      rw [rem_nat k 63]
      refine (TO_cons (TOp_exact rfl (Ex_shr rfl rfl rfl (by omega)) ?_))
      refine TO_puresN 4 tys_of rfl (TO_nil ?_)
      refine TC_ret ?_
      repeat (first | refine TN_thenr ?_ | refine TN_blockr ?_)
      refine TN.fold (Bmp p l) (ent_pack q hl) ?_
      refine TN_rets tys_of () (.inl rfl) rfl (rs := [.tmp 4]) rfl (vs := [_]) ⟨rfl, trivial⟩ ?_ trivial
      have e1 : (min (((k % (63 + 1) : Nat) : Int)).toNat IntKind.u64.bits) = k % 64 := by
        show min _ 64 = _
        simp; omega
      show Value.bool _ = Value.bool _
      rw [e1, shr_u64, bit_test _ _ (wordN_lt _ _), wordN_bit]
      simp [hasB]
    · have hlt : ¬ i < l.length := by simpa using h11
      refine TO_puresN 17 tys_of rfl (TO_nil ?_)
      refine TC_ret ?_
      repeat (first | refine TN_thenr ?_ | refine TN_blockr ?_)
      refine TN_rets tys_of () (.inl rfl) rfl (rs := [.tmp 4]) rfl (vs := [_]) ⟨rfl, trivial⟩ ?_ trivial
      have : l.length ≤ i.toNat := by omega
      simp [retV, hasB, List.getD, List.getElem?_eq_none this]
  · refine TO_puresN 22 tys_of rfl (TO_nil ?_)
    refine TC_ret ?_
    repeat (first | refine TN_thenr ?_ | refine TN_blockr ?_)
    refine TN_rets tys_of () (.inl rfl) rfl (rs := [.tmp 4]) rfl (vs := [_]) ⟨rfl, trivial⟩ ?_ trivial
    simp [retV, hasB, h6]

theorem wordsOf_length (l : List Bool) : (wordsOf l).length = (l.length + 63) / 64 := by simp [wordsOf]
theorem wordsOf_set {l : List Bool} {k : Nat} (hk : k < l.length) (b : Bool) (hb : l.getD k false = !b) :
    setAll (wordsOf l) (0 + k / 64) (cellsL (.int .u64 ((wordN l (k / 64) ^^^ 2 ^ (k % 64) : Nat) : Int))) = wordsOf (l.set k b) := by
  show (wordsOf l).set (0 + k / 64) _ = _
  rw [Nat.zero_add]
  apply List.ext_getElem?
  intro j
  rw [List.getElem?_set]
  have hl : (l.set k b).length = l.length := by simp
  by_cases hj : j < (l.length + 63) / 64
  · rw [wordsOf_get hj, wordsOf_get (l := l.set k b) (by rw [hl]; exact hj)]
    split
    · rename_i hkj
      subst hkj
      rw [if_pos (by rw [wordsOf_length]; exact hj)]
      congr 3
      unfold wordN
      rw [bitsNat_turn (Nat.mod_lt _ (by decide))]
      apply bitsNat_congr
      intro m hm
      have h2 : 64 * (k / 64) + k % 64 = k := Nat.div_add_mod k 64
      by_cases hmk : m = k % 64
      · subst hmk
        simp only [if_true, h2, hb]
        simp [List.getD, hk]
      · have h3 : k ≠ 64 * (k / 64) + m := by omega
        simp [hmk, List.getD, List.getElem?_set_ne h3]
    · rename_i hkj
      congr 3
      unfold wordN
      apply bitsNat_congr
      intro m hm
      have h3 : k ≠ 64 * j + m := by omega
      simp [List.getD, List.getElem?_set_ne h3]
  · have h1 : (wordsOf l)[j]? = none := List.getElem?_eq_none (by rw [wordsOf_length]; omega)
    have h2 : (wordsOf (l.set k b))[j]? = none := List.getElem?_eq_none (by rw [wordsOf_length, hl]; omega)
    rw [h1, h2]
    split
    · rename_i hkj
      subst hkj
      rw [if_neg (by rw [wordsOf_length]; omega)]
    · rfl
theorem count_set {l : List Bool} {k : Nat} (hk : k < l.length) (b : Bool) (hb : l.getD k false = !b) :
    ((l.set k b).count true : Int) = if b then (l.count true : Int) + 1 else (l.count true : Int) - 1 := by
  have e : l[k] = !b := by simpa [List.getD, hk] using hb
  rw [List.count_set hk, e]
  have : b = false → 0 < l.count true := by
    rintro rfl
    exact List.count_pos_iff.2 (by rw [← show l[k] = true from e]; exact List.getElem_mem hk)
  cases b
  · have := this rfl
    simp; omega
  · simp
theorem count_le (l : List Bool) : l.count true ≤ l.length := List.count_le_length

theorem bmp_of {p q n : Nat} {c : Int} {l : List Bool} (hn : n = l.length) (hc : c = l.count true) (hl : 1 ≤ n ∧ n ≤ 1048576) :
    Ent (sep [cel p T_bitmap_Map [.int .i64 n, .slice (some ⟨q, 0, none⟩) ((n + 63) / 64) ((n + 63) / 64), .int .i64 c], cel q T_uint64 (wordsOf l)]) (Bmp p l) := by
  subst hn hc; exact ent_pack (φ := fun (_ : Nat) => 1 ≤ l.length ∧ l.length ≤ 1048576) (L := fun q => [cel p T_bitmap_Map [.int .i64 l.length, .slice (some ⟨q, 0, none⟩) ((l.length + 63) / 64) ((l.length + 63) / 64), .int .i64 (l.count true)], cel q T_uint64 (wordsOf l)]) q hl

theorem turn_fn (S : Hp) (p : Nat) (l : List Bool) (k : Nat) (on : Bool) (hk : k < l.length) : FNs S prog F_bitmap_Map_turn #[.pointer (some ⟨p, 0, none⟩), .int .i64 k, .bool on] [Bmp p l] (fun (_ : Unit) => .tuple #[]) (fun _ => True)
    (fun _ => [Bmp p (l.set k on)]) := by
  refine FNs_of_body func_bitmap_Map_turn rfl ntmps_bitmap_Map_turn rfl ?_
  intro R w0
  have hh : hasB l k = l.getD k false := by simp [hasB]
  refine TC_seq ?_
  refine TC_seq ?_
  refine TC_region ?_
  refine TO_puresN 2 tys_of rfl (TO_cons (TOp_calls rfl rfl cl_bitmap_Map_Has (has_fn S p l k) fun y hy => ?_))
  refine TO_puresN 1 tys_of rfl (TO_cons (TOp_bool tys_of rfl rfl (fun h10 => ?_) (fun h10 => ?_)))
  · refine TO_puresN 0 tys_of rfl (TO_nil ?_)
    refine TC_true rfl ?_
    refine TC_ret ?_
    repeat (first | refine TN_thenr ?_ | refine TN_blockr ?_)
    have e : l.set k on = l := by
      rw [hh] at h10
      have h1 : l[k] = on := by simpa [List.getD, hk] using h10
      rw [← h1]; simp
    rw [e]
    exact TN_rets tys_of () (.inl rfl) rfl (rs := []) rfl (vs := []) trivial rfl trivial
  · have hb : l.getD k false = !on := by
      rw [hh] at h10
      cases on <;> simpa using h10
    refine TO_puresN 0 tys_of rfl (TO_nil ?_)
    refine TC_false rfl ?_
    refine TC_skip ?_
    refine TC_seq ?_
    refine TN.unpack fun q hl => ?_
    refine TC_draw (by kernel_rfl) (sep ([cel p T_bitmap_Map [.int .i64 l.length, .slice (some ⟨q, 0, none⟩) ((l.length + 63) / 64) ((l.length + 63) / 64), .int .i64 (l.count true)], cel q T_uint64 (wordsOf l)] ++ [])) 13 ?_
    refine TA_reads (fuel := 1) [0, 1, 2, 3, 4, 5, 6, 7, 8, 9, 10, 11, 12] rfl (fun _ _ _ h => h) (by decide +kernel) (by decide +kernel) (by decide +kernel) (by decide +kernel) (ent_top _) ?_
    refine TR_puresN 3 tys_of rfl (TR_exact rfl (Ex_load tys_of rfl rfl rfl keep_find rfl) ?_)
    refine TR_puresN 2 tys_of rfl ?_
    rw [quo_nat k 63 (by omega)]
    refine (TR_exact rfl (Ex_index1 tys_of rfl rfl rfl rfl rfl rfl (by omega)) ?_)
    refine TR_puresN 0 tys_of rfl (TR_exact rfl (Ex_load tys_of rfl rfl rfl keep_find (load0 rfl (wordsOf_get (by omega)))) ?_)
    refine TR_puresN 2 tys_of rfl ?_
    rw [rem_nat k 63]
    refine (TR_exact rfl (Ex_shl rfl rfl rfl (by omega)) ?_)
    have e1 : (min (((k % (63 + 1) : Nat) : Int)).toNat IntKind.u64.bits) = k % 64 := by
      show min _ 64 = _
      simp; omega
    rw [e1, shl_one _ (Nat.mod_lt _ (by decide))]
    refine TR_puresN 1 tys_of rfl ?_
    rw [xor_u64 _ _ (wordN_lt _ _) (Nat.pow_lt_pow_right (by decide) (Nat.mod_lt _ (by decide)))]
    refine (TR_exact rfl (Ex_index1 tys_of rfl rfl rfl rfl rfl rfl (by omega)) ?_)
    refine TR_puresN 0 tys_of rfl (TR_done ?_)
    refine TA_one (fuel := 0) 13 (by decide +kernel) (TOp_storeP tys_of rfl rfl rfl rfl rfl rfl (by show 0 + k / 64 + 1 ≤ _; rw [wordsOf_length]; omega) rfl ?_)
    refine TB_high (by decide) ?_
    refine TA_nil ?_ (by decide +kernel)
    rw [wordsOf_set hk on hb]
    have hcl := count_le l
    have hcs := count_set hk on hb
    refine TC_seq ?_
    refine TC_region ?_
    refine TO_puresN 3 tys_of rfl (TO_cons (TOp_exact rfl (Ex_load tys_of rfl rfl rfl lies_find rfl) ?_))
    refine TO_puresN 3 tys_of rfl (TO_cons (TOp_store tys_of rfl rfl rfl rfl rfl rfl rfl rfl ?_))
    refine TO_puresN 0 tys_of rfl (TO_nil ?_)
    refine TC_seq ?_
    refine TC_region ?_
    refine TO_puresN 1 tys_of rfl (TO_nil ?_)
    rw [wrap_i64 (x := ((l.count true : Nat) : Int) - 1) (by omega) (by omega)]
    refine TC_cond rfl (fun h => ?_) (fun h => ?_)
    · refine TC_region ?_
      refine TO_puresN 3 tys_of rfl (TO_cons (TOp_exact rfl (Ex_load tys_of rfl rfl rfl lies_find rfl) ?_))
      refine TO_puresN 3 tys_of rfl (TO_cons (TOp_store tys_of rfl rfl rfl rfl rfl rfl rfl rfl ?_))
      refine TO_puresN 0 tys_of rfl (TO_nil ?_)
      rw [wrap_i64 (x := ((l.count true : Nat) : Int) - 1 + 2) (by omega) (by omega)]
      simp only [setAll, cellsL, List.set_cons_succ, List.set_cons_zero, Nat.zero_add]
      refine TN.fold (Bmp p (l.set k on)) (bmp_of (q := q) (c := ((l.count true : Nat) : Int) - 1 + 2) (n := l.length) (by simp) (by rw [hcs, h]; simp; omega) hl) ?_
      exact TN_rets tys_of () (.inr rfl) rfl (rs := []) rfl (vs := []) trivial rfl trivial
    · refine TC_skip ?_
      simp only [setAll, cellsL, List.set_cons_succ, List.set_cons_zero, Nat.zero_add]
      refine TN.fold (Bmp p (l.set k on)) (bmp_of (q := q) (c := ((l.count true : Nat) : Int) - 1) (n := l.length) (by simp) (by rw [hcs, h]; simp) hl) ?_
      exact TN_rets tys_of () (.inr rfl) rfl (rs := []) rfl (vs := []) trivial rfl trivial
end Go.Sl.Tz
