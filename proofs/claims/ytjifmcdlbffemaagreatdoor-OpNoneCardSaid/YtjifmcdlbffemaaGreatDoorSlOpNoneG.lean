/-
  A part of the proof of the statement about OpNone: laws of what a heap owns, the functions' contracts, in the order in which they call each other: Lib, Lib2, Bag, Image2, Image3, Table, Table2, Cell, Cell2, Assoc, Cell3, Cell4, RO.
-/
import Derived.Shelf.Slices.CompactI
import Derived.Lib.RowBridge
import Derived.Test.YtjifmcdlbffemaaGreatDoorSlOpNoneA
import Derived.Test.YtjifmcdlbffemaaGreatDoorSlOpNoneB
import Derived.Test.YtjifmcdlbffemaaGreatDoorSlOpNoneC
import Derived.Test.YtjifmcdlbffemaaGreatDoorSlOpNoneD
import Derived.Test.YtjifmcdlbffemaaGreatDoorSlOpNoneE
import Derived.Test.YtjifmcdlbffemaaGreatDoorSlOpNoneF
set_option linter.unusedVariables false
set_option linter.unusedSimpArgs false

/-
  Contracts of small functions of Go's library at int: cmp.Less, slices.isNaN, slices.BinarySearch.
-/
namespace Go.Sl.Tz
open Go Go.Proofs Go.Sl
set_option maxRecDepth 100000

theorem cmp_isNaN_fn (S : Hp) (x : Int) : FNs S prog F_cmp_isNaN_int #[iv x] [] (fun _ : Unit => .bool false) (fun _ => True) (fun _ => []) := by
  refine FNs_of_body func_cmp_isNaN_int rfl ntmps_cmp_isNaN_int rfl (fun R w0 => TM_start ?_)
  refine TM_run 14 tys_of rfl ?_
  refine TN_rets tys_of () (.inl rfl) rfl (rs := [.tmp 2]) rfl (vs := [_]) ⟨rfl, trivial⟩ (by simp [retV]) trivial
theorem slices_isNaN_fn (S : Hp) (x : Int) : FNs S prog F_slices_isNaN_int #[iv x] [] (fun _ : Unit => .bool false) (fun _ => True) (fun _ => []) := by
  refine FNs_of_body func_slices_isNaN_int rfl ntmps_slices_isNaN_int rfl (fun R w0 => TM_start ?_)
  refine TM_run 14 tys_of rfl ?_
  refine TN_rets tys_of () (.inl rfl) rfl (rs := [.tmp 2]) rfl (vs := [_]) ⟨rfl, trivial⟩ (by simp [retV]) trivial
theorem cmp_Less_fn (S : Hp) (x y : Int) : FNs S prog F_cmp_Less_int #[iv x, iv y] [] (fun _ : Unit => .bool (decide (x < y))) (fun _ => True) (fun _ => []) := by
  refine FNs_of_body func_cmp_Less_int rfl ntmps_cmp_Less_int rfl (fun R w0 => TM_start ?_)
  refine TM_ops 8 tys_of rfl (TOp_calls rfl rfl cl_cmp_isNaN_int (cmp_isNaN_fn _ _) fun y6 h6 => ?_)
  refine TM_run 14 tys_of rfl ?_
  refine TN_rets tys_of () (.inl rfl) rfl (rs := [.tmp 4]) rfl (vs := [_]) ⟨rfl, trivial⟩ rfl trivial
/-- How many elements of a rising row are less than x. -/
def below (xs : List Int) (x : Int) : Nat := xs.countP (fun y => decide (y < x))
theorem below_at {xs : List Int} {x : Int} (hs : xs.Pairwise (· ≤ ·)) {i : Nat} (hi : i ≤ xs.length) (h1 : ∀ t, t < i → xs[t]! < x) (h2 : ∀ t, i ≤ t → t < xs.length → x ≤ xs[t]!) : below xs x = i := by
  unfold below
  rw [← List.take_append_drop i xs, List.countP_append]
  have e1 : (xs.take i).countP (fun y => decide (y < x)) = i := by
    rw [show (xs.take i).countP (fun y => decide (y < x)) = (xs.take i).length from List.countP_eq_length.2 fun y hy => ?_, List.length_take]
    · omega
    · obtain ⟨t, ht, rfl⟩ := List.mem_iff_getElem.1 hy
      have h := h1 t (by simp at ht; omega)
      rw [getElem!_pos xs t (by simp at ht; omega)] at h
      simpa using h
  have e2 : (xs.drop i).countP (fun y => decide (y < x)) = 0 := List.countP_eq_zero.2 fun y hy => by
    obtain ⟨t, ht, rfl⟩ := List.mem_iff_getElem.1 hy
    have h := h2 (i + t) (by omega) (by simp at ht; omega)
    rw [getElem!_pos xs (i + t) (by simp at ht; omega)] at h
    simpa using h
  omega
theorem sorted_le {xs : List Int} (hs : xs.Pairwise (· ≤ ·)) {a b : Nat} (hab : a ≤ b) (hb : b < xs.length) : xs[a]! ≤ xs[b]! := by
  rw [getElem!_pos xs a (by omega), getElem!_pos xs b hb]
  rcases Nat.lt_or_eq_of_le hab with h | h
  · exact List.pairwise_iff_getElem.1 hs a b (by omega) hb h
  · subst h; exact Int.le_refl _
theorem mem_at {xs : List Int} {x : Int} (hs : xs.Pairwise (· ≤ ·)) {i : Nat} (h1 : ∀ t, t < i → xs[t]! < x) (h2 : ∀ t, i ≤ t → t < xs.length → x ≤ xs[t]!) : xs.contains x = decide (i < xs.length ∧ xs[i]! = x) := by
  rw [Bool.eq_iff_iff, List.contains_iff_mem, decide_eq_true_iff]
  constructor
  · intro hm
    obtain ⟨t, ht, e⟩ := List.mem_iff_getElem.1 hm
    have e' : xs[t]! = x := by rw [getElem!_pos xs t ht]; exact e
    have hti : i ≤ t := by
      rcases Nat.lt_or_ge t i with h | h
      · have := h1 t h; omega
      · exact h
    have := sorted_le hs hti ht
    have := h2 i (Nat.le_refl _) (by omega)
    exact ⟨by omega, by omega⟩
  · rintro ⟨h, e⟩
    rw [getElem!_pos xs i h] at e
    exact List.mem_iff_getElem.2 ⟨i, h, e⟩
theorem bs_lo {xs : List Int} (hs : xs.Pairwise (· ≤ ·)) {m t : Nat} {x : Int} (ht : t ≤ m) (hm : m < xs.length) (h : xs[m]! < x) : xs[t]! < x := by
  have := sorted_le hs ht hm; omega
theorem bs_hi {xs : List Int} (hs : xs.Pairwise (· ≤ ·)) {m t : Nat} {x : Int} (ht : m ≤ t) (hm : t < xs.length) (h : ¬ xs[m]! < x) : x ≤ xs[t]! := by
  have := sorted_le hs ht hm; omega
theorem mid_eq {i j : Nat} (h : i + j < 2 ^ 63) : IntKind.i64.wrap (Int.fdiv (IntKind.u64.wrap ((i : Int) + (j : Int))) (2 ^ min 1 IntKind.u64.bits)) = (((i + j) / 2 : Nat) : Int) := by
  rw [IntKind.wrap_u64, Int.emod_eq_of_lt (by omega) (by omega)]
  rw [show (2 : Int) ^ min 1 IntKind.u64.bits = 2 from rfl, Int.fdiv_eq_ediv_of_nonneg _ (by omega)]
  rw [wrap_i64 (by omega) (by omega)]
  omega
theorem bsearch_fn (S : Hp) (s : Slc) (xs : List Int) (hs : xs.Pairwise (· ≤ ·)) (hb : xs.length < 2 ^ 62) (x : Int) : FNs S prog F_slices_BinarySearch_int_int #[s.val, iv x] [Row s T_int 1 (xs.map iv)]
    (fun _ : Unit => .tuple #[iv (below xs x), .bool (xs.contains x)]) (fun _ => True) (fun _ => [Row s T_int 1 (xs.map iv)]) := by
  refine FNs_of_body func_slices_BinarySearch_int_int rfl ntmps_slices_BinarySearch_int_int rfl (fun R w0 => TM_start ?_)
  refine TN.rowlen s fun hn => ?_
  rw [List.length_map] at hn
  refine TM_run 22 tys_of rfl ?_
  refine TM_loop (fun k : Nat × Nat => k.1 ≤ k.2 ∧ k.2 ≤ xs.length ∧ (∀ t, t < k.1 → xs[t]! < x) ∧ (∀ t, k.2 ≤ t → t < xs.length → x ≤ xs[t]!)) (fun k : Nat × Nat => ⟨54, [], [(7, iv k.1), (8, iv k.2), (6, iv s.n), (5, Value.bool false), (4, iv 0), (0, Value.slice s.a s.n s.cap), (1, iv x)]⟩) (fun k : Nat × Nat => [Row s T_int 1 (List.map iv xs)]) (fun k : Nat × Nat => k.2 - k.1) (0, s.n) ⟨Nat.zero_le _, by simp; omega, fun t ht => absurd ht (Nat.not_lt_zero _), fun t h1 h2 => by simp at h1; omega⟩ (Env.le_of_knows (by repeat constructor)) ?_
  rintro ⟨i, j⟩ ⟨hij, hj, h1, h2⟩
  dsimp only at *
  refine TM_run 8 tys_of rfl ?_
  refine TM_dec (t := 15) rfl (fun h15 => ?_) (fun h15 => ?_)
  · refine TM_run 9 tys_of rfl ?_
    rw [wrap_i64 (x := (↑i : Int) + (↑j : Int)) (by omega) (by omega)]
    refine TM_run 3 tys_of rfl ?_
    refine TM_run 1 tys_of rfl ?_
    rw [show IntKind.i64.wrap (Int.fdiv (IntKind.u64.wrap ((i : Int) + (j : Int))) (2 ^ min 1 IntKind.u64.bits)) = (((i + j) / 2 : Nat) : Int) from mid_eq (by omega)]
    refine TM_run 6 tys_of rfl ?_
    refine TN.rowopen s (by omega) fun g24 pre24 sp24 ha24 hrow24 => ?_
    refine TM_op (TOp_exact rfl (Ex_indexS (sz := 1) tys_of rfl rfl ha24 rfl rfl rfl (by omega)) ?_)
    refine TM_ops 0 tys_of rfl (TOp_exact rfl (Ex_load tys_of rfl rfl rfl lies_find (load_map rfl (by first | omega | assumption))) ?_)
    refine TM_ops 1 tys_of rfl (TOp_calls rfl rfl cl_cmp_Less_int (cmp_Less_fn _ _ _) fun y27 h27 => ?_)
    refine TM_run 2 tys_of rfl ?_
    refine TM_dec (t := 27) rfl (fun h27 => ?_) (fun h27 => ?_)
    · refine TM_run 4 tys_of rfl ?_
      rw [wrap_i64 (x := (↑((i + j) / 2) : Int) + 1) (by omega) (by omega)]
      refine TM_run 3 tys_of rfl ?_
      refine TN.rowclose hrow24 ?_
      refine TM_again ((i + j) / 2 + 1, j) ⟨by dsimp only; omega, hj, fun t ht => bs_lo hs (by dsimp only at ht; omega) (by omega) h27, h2⟩ (by omega) (Env.le_of_knows (by repeat constructor))
    · refine TM_run 6 tys_of rfl ?_
      refine TN.rowclose hrow24 ?_
      refine TM_again (i, (i + j) / 2) ⟨by dsimp only; omega, by dsimp only; omega, h1, fun t h3 h4 => bs_hi hs h3 h4 h27⟩ (by omega) (Env.le_of_knows (by repeat constructor))
  · refine TM_run 13 tys_of rfl ?_
    refine TM_dec (t := 35) rfl (fun h35 => ?_) (fun h35 => ?_)
    · refine TM_run 2 tys_of rfl ?_
      refine TN.rowopen s (by omega) fun g38 pre38 sp38 ha38 hrow38 => ?_
      refine TM_op (TOp_exact rfl (Ex_indexS (sz := 1) tys_of rfl rfl ha38 rfl rfl rfl (by omega)) ?_)
      refine TM_ops 0 tys_of rfl (TOp_exact rfl (Ex_load tys_of rfl rfl rfl lies_find (load_map rfl (by first | omega | assumption))) ?_)
      refine TM_run 3 tys_of rfl ?_
      refine TM_eq (t := 42) rfl (fun h42 => ?_) (fun h42 => ?_)
      · refine TM_run 16 tys_of rfl ?_
        have h3 : ∀ t, i ≤ t → t < xs.length → x ≤ xs[t]! := fun t ht h => h2 t (by omega) h
        rw [below_at hs (i := i) (by omega) h1 h3, mem_at hs h1 h3]
        refine TN.rowclose hrow38 ?_
        refine TN_rets tys_of () (.inl rfl) rfl (rs := [.tmp 4, .tmp 5]) rfl (vs := [_, _]) ⟨rfl, rfl, trivial⟩ (by simp [retV] at *; omega) trivial
      · refine TM_ops 2 tys_of rfl (TOp_exact rfl (Ex_indexS (sz := 1) tys_of rfl rfl ha38 rfl rfl rfl (by omega)) ?_)
        refine TM_ops 0 tys_of rfl (TOp_exact rfl (Ex_load tys_of rfl rfl rfl lies_find (load_map rfl (by first | omega | assumption))) ?_)
        refine TM_ops 0 tys_of rfl (TOp_calls rfl rfl cl_slices_isNaN_int (slices_isNaN_fn _ _) fun y47 h47 => ?_)
        refine TM_run 11 tys_of rfl ?_
        have h3 : ∀ t, i ≤ t → t < xs.length → x ≤ xs[t]! := fun t ht h => h2 t (by omega) h
        rw [below_at hs (i := i) (by omega) h1 h3, mem_at hs h1 h3]
        refine TN.rowclose hrow38 ?_
        refine TN_rets tys_of () (.inl rfl) rfl (rs := [.tmp 4, .tmp 5]) rfl (vs := [_, _]) ⟨rfl, rfl, trivial⟩ (by simp [retV] at *; omega) trivial
    · refine TM_run 23 tys_of rfl ?_
      have h3 : ∀ t, i ≤ t → t < xs.length → x ≤ xs[t]! := fun t ht h => h2 t (by omega) h
      rw [below_at hs (i := i) (by omega) h1 h3, mem_at hs h1 h3]
      refine TN_rets tys_of () (.inl rfl) rfl (rs := [.tmp 4, .tmp 5]) rfl (vs := [_, _]) ⟨rfl, rfl, trivial⟩ (by simp [retV]; omega) trivial
end Go.Sl.Tz

/-
  The library's Compact at int, laid by the shelf's command; facts of rows.
-/
namespace Go.Proofs
def Tryz.lays220_ren : Go.Shelf.Ren := ⟨fun | 20 => 130 | n => n, fun | 22 => 25 | 3 => 3 | 4 => 4 | 0 => 0 | n => n, fun | n => n⟩
theorem Tryz.lays220 : Go.Proofs.Lays2.n20 Tryz.prog Tryz.lays220_ren := {
  mixed := by kernel_rfl,
  f20 := Tryz.func130.trans (congrArg some (by kernel_rfl)),
  t0 := Tryz.underlying0,
  a0 := Tryz.isAgg0,
  z0 := Tryz.sizeOf0,
  v0 := Tryz.zeroValue0,
  t3 := Tryz.underlying3,
  a3 := Tryz.isAgg3,
  z3 := Tryz.sizeOf3,
  v3 := Tryz.zeroValue3,
  t4 := Tryz.underlying4,
  a4 := Tryz.isAgg4,
  z4 := Tryz.sizeOf4,
  v4 := Tryz.zeroValue4,
  t22 := Tryz.underlying25,
  a22 := Tryz.isAgg25,
  z22 := Tryz.sizeOf25,
  v22 := Tryz.zeroValue25,
  i3 := by kernel_rfl }
end Go.Proofs
namespace Go.Sl.Tz
open Go Go.Proofs Go.Sl
set_option maxRecDepth 100000

section
variable {Γ : Ctx} {K : Act → World → Prop} {E : Env} {L : List HProp}
/-- What is known of a slice that is owned. -/
theorem TN.rowinfo (s : Slc) {t : TypeId} {sz : Nat} {xs : List Value} {R : List HProp} [ht : FindRow s L t sz xs R] (h : xs.length = s.n * sz → s.n ≤ s.cap → TN Γ K E (sep L)) : TN Γ K E (sep L) := by
  intro a w ha hw
  have hs := hw.1
  rw [ht.out, star_assoc] at hs
  obtain ⟨x, hx, _⟩ := Row.sat hs
  refine h hx.len ?_ a w ha hw
  cases x with
  | none => rw [hx.1]; exact Nat.le_refl _
  | some y => obtain ⟨g, pre, sp⟩ := y; exact hx.2.2.1
end

def compI (xs : List Int) : List Int := Lib.compact xs
theorem compI_nil : compI [] = [] := List.eq_nil_of_length_eq_zero (Nat.le_zero.1 (Lib.compact_length_le []))
theorem sortI_nil : sortI [] = [] := by simp [sortI]
theorem cells_ivs (xs : List Int) : (xs.map iv).all isCell = true := by simp [iv, isCell]
theorem compact_fn (S : Hp) (s : Slc) (xs : List Int) (hb : xs.length < 4611686018427387904) : FNs S prog F_slices_Compact_int_int #[s.val] [Row s T_int 1 (xs.map iv)] (fun r : Slc => r.val) (fun r => r.n = (compI xs).length) (fun r => [Row r T_int 1 ((compI xs).map iv)]) := by
  have hlen : (compI xs).length ≤ xs.length := Lib.compact_length_le xs
  unfold Row
  refine FNs.unpack (R := []) fun x hx => ?_
  cases x with
  | none =>
    obtain ⟨rfl, hxs⟩ := hx
    have hx0 : xs = [] := by simpa using hxs
    subst hx0
    have h0 : compI [] = [] := List.eq_nil_of_length_eq_zero (by simpa using hlen)
    intro R w hs
    refine (Any.slices_Compact_int_empty Tryz.lays220 none 0 w).mono ?_
    rintro e w' ⟨rfl, rfl⟩
    refine ⟨_, rfl, hs.mono (Ent.star (fun h hh => ⟨nilS, (lift_star _ _ _).2 ⟨⟨rfl, by rw [h0]; rfl⟩, ?_⟩⟩) (.refl _)), Kept.refl _⟩
    rw [h0]
    show star (Row nilS T_int 1 []) emp h
    rw [star_emp]
    exact Row.nil T_int 1 h hh
  | some x =>
    obtain ⟨g, pre, sp⟩ := x
    obtain ⟨ha, hl, hn, hc, hcell⟩ := hx
    have hn' : s.n = xs.length := by simpa using hl.symm
    intro R w hs
    have hs' : Sat w (star (cel g T_int (pre ++ (xs.map iv ++ sp))) (star (own S) R)) := by
      have : Sat w (star (star (cel g T_int (pre ++ (xs.map iv ++ sp))) emp) (star (own S) R)) := hs
      rwa [star_emp] at this
    have hv : s.val = .slice (some ⟨g, pre.length, none⟩) xs.length s.cap := by unfold Slc.val; rw [ha, hn']
    rw [hv]
    have hblk := hs'.pt
    have hH : Go.Sort.Holds (Value.int .i64) w g pre.length xs.toArray := by
      intro j hj
      have hj' : j < xs.length := by simpa using hj
      refine ⟨?_, frozen_of_row w g _ _ _ hblk⟩
      rw [cell_of_row w g _ _ _ _ hblk]
      simp [List.getElem?_append_right, hj']
      rw [List.getElem?_append_left (by simpa using hj'), List.getElem?_map, List.getElem?_eq_getElem hj']; rfl
    refine (Any.slices_Compact_int Tryz.lays220 g pre.length s.cap xs w hH (by omega) (by omega)).mono ?_
    rintro e w' ⟨rfl, q, rfl⟩
    have hlen2 : (compI xs ++ List.replicate (xs.length - (compI xs).length) 0).length = xs.length := by simp; omega
    have hh : Sat (Go.Sort.putRow (Value.int .i64) (Go.Sort.ahead w q) g pre.length (compI xs ++ List.replicate (xs.length - (compI xs).length) 0).toArray) (star (cel g T_int (pre ++ ((compI xs ++ List.replicate (xs.length - (compI xs).length) 0).map iv ++ sp))) (star (own S) R)) := by
      refine hs'.set (o' := .cells (pre ++ ((compI xs ++ List.replicate (xs.length - (compI xs).length) 0).map iv ++ sp)).toArray T_int) ?_ ?_
      · unfold Go.Sort.putRow Go.Sort.mapBlock Go.Sort.ahead
        simp only [Array.getElem?_modify, if_true, hblk, Option.map_some, Go.Sort.onCells, putCells_row pre sp xs _ hlen2]
      · intro k hk
        unfold Go.Sort.putRow Go.Sort.mapBlock Go.Sort.ahead
        simp only [Array.getElem?_modify, Ne.symm hk, if_false]
    refine ⟨_, rfl, hh.mono (Ent.star (A := cel g T_int (pre ++ ((compI xs ++ List.replicate (xs.length - (compI xs).length) 0).map iv ++ sp))) (fun h hh => ⟨⟨some ⟨g, pre.length, none⟩, (compI xs).length, s.cap⟩, (lift_star _ _ _).2 ⟨⟨rfl, rfl⟩, ?_⟩⟩) (.refl _)), ⟨rfl, rfl, by simp [Go.Sort.putRow, Go.Sort.mapBlock, Go.Sort.ahead]⟩⟩
    show star (Row _ T_int 1 ((compI xs).map iv)) emp h
    rw [star_emp]
    refine Row.ent (some (g, pre, (List.replicate (xs.length - (compI xs).length) 0).map iv ++ sp)) ⟨rfl, by simp, by show (compI xs).length ≤ s.cap; omega, ?_, cells_ivs _⟩ h ?_
    · simp at hl hc ⊢; omega
    · show star (cel g T_int (pre ++ ((compI xs).map iv ++ ((List.replicate (xs.length - (compI xs).length) 0).map iv ++ sp)))) emp h
      rw [star_emp, ← List.append_assoc ((compI xs).map iv), ← List.map_append]
      exact hh
end Go.Sl.Tz

/-
  The contracts of package bag (at int), first part; slices.Insert behind the last element.
-/
namespace Go.Sl.Tz
open Go Go.Proofs Go.Sl
set_option maxRecDepth 100000

theorem insertEnd_fn (S : Hp) (s r : Slc) (xs ys : List Int) (n : Nat) (hn : n = xs.length) (hy : 0 < ys.length) (hb : xs.length + ys.length < 2 ^ 32) : FNs S prog F_slices_Insert_int_int #[s.val, iv n, r.val] [Row s T_int 1 (xs.map iv), Row r T_int 1 (ys.map iv)]
    (fun s' : Slc => s'.val) (fun s' => s'.n = xs.length + ys.length) (fun s' => [Row s' T_int 1 ((xs ++ ys).map iv), Row r T_int 1 (ys.map iv)]) := by
  refine FNs_of_body func_slices_Insert_int_int rfl ntmps_slices_Insert_int_int rfl (fun R w0 => TM_start ?_)
  refine TN.rowinfo s fun hs hsc => ?_
  refine TN.rowinfo r fun hr hrc => ?_
  rw [List.length_map] at hs hr
  refine TM_ops 9 tys_of rfl (TOp_exact rfl (Ex_slice tys_of rfl rfl (bnd_some rfl) bnd_none bnd_none (by simp) rfl rfl (by omega) (by omega) (by omega)) ?_)
  refine TM_run 16 tys_of rfl ?_
  refine TM_eq (t := 16) rfl (fun h => by first | omega | contradiction | (simp at h; done)) (fun h16 => ?_)
  refine TM_run 18 tys_of rfl ?_
  refine TM_eq (t := 22) rfl (fun h22 => ?_) (fun h => by first | omega | contradiction | (simp at h; done))
  refine TM_ops 5 tys_of rfl (TOp_append (s := s) (r := r) tys_of rfl rfl rfl rfl rfl rfl rfl rfl rfl rfl (by rfl) (bytes_ok rfl (by omega)) fun s25 hs25 => ?_)
  refine TM_run 5 tys_of rfl ?_
  rw [List.map_append]
  refine TN_rets tys_of s25 (.inl rfl) rfl (rs := [.tmp 6]) rfl (vs := [_]) ⟨rfl, trivial⟩ rfl (by omega)
/-- What a bag has: rising, places of a table. -/
structure BagOK (xs : List Int) : Prop where
  rise : xs.Pairwise (· < ·)
  lo : ∀ x ∈ xs, 0 ≤ x
  hi : ∀ x ∈ xs, x < 4096
theorem rise_len : ∀ {xs : List Int} {a : Int}, xs.Pairwise (· < ·) → (∀ x ∈ xs, a ≤ x) → (∀ x ∈ xs, x < 4096) → (xs.length : Int) ≤ max 0 (4096 - a)
  | [], _, _, _, _ => by simp; omega
  | x :: r, a, h, h1, h2 => by
    have h' := List.pairwise_cons.1 h
    have := rise_len (a := x + 1) h'.2 (fun y hy => by have := h'.1 y hy; omega) (fun y hy => h2 y (.tail _ hy))
    have h3 := h1 x (.head _)
    have h4 := h2 x (.head _)
    simp only [List.length_cons]
    omega
theorem BagOK.len {xs : List Int} (h : BagOK xs) : xs.length ≤ 4096 := by have := rise_len h.rise (a := 0) h.lo h.hi; omega
theorem BagOK.le {xs : List Int} (h : BagOK xs) : xs.Pairwise (· ≤ ·) := h.rise.imp Int.le_of_lt
theorem BagOK.nil : BagOK [] := ⟨.nil, nofun, nofun⟩
/-- x is put where it belongs. -/
def insI (xs : List Int) (x : Int) : List Int := xs.take (below xs x) ++ x :: xs.drop (below xs x)
def putB (xs : List Int) (x : Int) : List Int := if xs.contains x = true then xs else insI xs x
theorem below_spec {xs : List Int} (hs : xs.Pairwise (· < ·)) (x : Int) : ∀ y ∈ xs.take (below xs x), y < x := by
  induction xs with
  | nil => intro y hy; simp at hy
  | cons a r ih =>
    have h := List.pairwise_cons.1 hs
    by_cases ha : a < x
    · have e : below (a :: r) x = below r x + 1 := by simp [below, ha]
      rw [e]
      intro y hy
      rcases List.mem_cons.1 hy with rfl | hy
      · exact ha
      · exact ih h.2 y hy
    · have e : below (a :: r) x = 0 := by
        unfold below
        rw [List.countP_eq_zero]
        intro y hy
        rcases List.mem_cons.1 hy with rfl | hy
        · simpa using ha
        · have := h.1 y hy; simp; omega
      rw [e]; intro y hy; simp at hy
theorem above_spec {xs : List Int} (hs : xs.Pairwise (· < ·)) (x : Int) : ∀ y ∈ xs.drop (below xs x), x ≤ y := by
  induction xs with
  | nil => intro y hy; simp at hy
  | cons a r ih =>
    have h := List.pairwise_cons.1 hs
    by_cases ha : a < x
    · have e : below (a :: r) x = below r x + 1 := by simp [below, ha]
      rw [e]
      exact ih h.2
    · have e : below (a :: r) x = 0 := by
        unfold below
        rw [List.countP_eq_zero]
        intro y hy
        rcases List.mem_cons.1 hy with rfl | hy
        · simpa using ha
        · have := h.1 y hy; simp; omega
      rw [e]; intro y hy
      rcases List.mem_cons.1 hy with rfl | hy
      · omega
      · have := h.1 y hy; omega
theorem BagOK.put {xs : List Int} (h : BagOK xs) {x : Int} (h0 : 0 ≤ x) (h1 : x < 4096) : BagOK (putB xs x) := by
  unfold putB
  split
  · exact h
  · rename_i hc
    have hc' : x ∉ xs := by simpa using hc
    have key : ∀ y ∈ insI xs x, y = x ∨ y ∈ xs := by
      intro y hy
      rcases List.mem_append.1 hy with hy | hy
      · exact .inr (List.mem_of_mem_take hy)
      · rcases List.mem_cons.1 hy with hy | hy
        · exact .inl hy
        · exact .inr (List.mem_of_mem_drop hy)
    refine ⟨?_, fun y hy => ?_, fun y hy => ?_⟩
    · refine List.pairwise_append.2 ⟨h.rise.sublist (List.take_sublist _ _), List.pairwise_cons.2 ⟨fun y hy => ?_, h.rise.sublist (List.drop_sublist _ _)⟩, fun a ha b hb => ?_⟩
      · have := above_spec h.rise x y hy
        have : y ≠ x := fun e => hc' (e ▸ List.mem_of_mem_drop hy)
        omega
      · have h2 := below_spec h.rise x a ha
        rcases List.mem_cons.1 hb with rfl | hb
        · exact h2
        · have := above_spec h.rise x b hb; omega
    · rcases key y hy with rfl | hy
      · exact h0
      · exact h.lo y hy
    · rcases key y hy with rfl | hy
      · exact h1
      · exact h.hi y hy

def Bag (p : Nat) (xs : List Int) : HProp := Pack (fun s : Slc => s.n = xs.length ∧ BagOK xs) (fun s => [cel p T_bag_Bag_int [s.val], Row s T_int 1 (xs.map iv)])
theorem bagNew_fn (S : Hp) : FNs S prog F_bag_New_int #[nilS.val] [] (fun p : Nat => pv p) (fun _ => True) (fun p => [Bag p []]) := by
  refine FNs_of_body func_bag_New_int rfl ntmps_bag_New_int rfl (fun R w0 => TM_start ?_)
  refine TN.nilrow T_int 1 (xs := ([] : List Int).map iv) rfl ?_
  refine TM_ops 8 tys_of rfl (TOp_calls rfl rfl cl_slices_Clone_int_int (clone_fn _ _ [] (by trivial)) fun y4 h4 => ?_)
  refine TM_ops 6 tys_of rfl (TOp_calls rfl rfl cl_slices_Sort_int_int (sort_fn _ _ [] (by trivial)) fun y6 h6 => ?_)
  rw [sortI_nil]
  refine TM_ops 5 tys_of rfl (TOp_calls rfl rfl cl_slices_Compact_int_int (compact_fn _ _ [] (by trivial)) fun y8 h8 => ?_)
  rw [compI_nil] at *
  refine TM_ops 1 tys_of rfl (TOp_box rfl rfl rfl fun b10 => ?_)
  refine TM_run 4 tys_of rfl ?_
  refine TN.as b10 (cel b10 T_bag_Bag_int [y8.val]) rfl ?_
  refine TN.shut (Bag b10 []) rfl y8 ⟨h8, .nil⟩ ?_
  refine TN_rets tys_of b10 (.inl rfl) rfl (rs := [.tmp 2]) rfl (vs := [_]) ⟨rfl, trivial⟩ rfl trivial
theorem bagPut_fn (S : Hp) (p : Nat) (xs : List Int) (x : Int) (h0 : 0 ≤ x) (h1 : x < 4096) (hend : ¬ xs.contains x = true → below xs x = xs.length) : FNs S prog F_bag_Bag_int_Put #[pv p, iv x] [Bag p xs]
    (fun _ : Unit => .bool (!xs.contains x)) (fun _ => True) (fun _ => [Bag p (putB xs x)]) := by
  refine FNs_of_body func_bag_Bag_int_Put rfl ntmps_bag_Bag_int_Put rfl (fun R w0 => TM_start ?_)
  refine TN.open (Bag p xs) rfl fun s hs => ?_
  have hok := hs.2
  have hlen := hok.len
  refine TM_ops 20 tys_of rfl (TOp_exact rfl (Ex_load tys_of rfl rfl rfl lies_find rfl) ?_)
  refine TM_ops 1 tys_of rfl (TOp_calls rfl rfl cl_slices_BinarySearch_int_int (bsearch_fn _ _ xs (by exact hok.le) (by omega) _) fun y15 h15 => ?_)
  refine TM_run 11 tys_of rfl ?_
  skip
  refine TM_run 3 tys_of rfl ?_
  refine TM_nbool (t := 19) rfl (fun h19 => ?_) (fun h19 => ?_)
  · skip
    refine TM_ops 6 tys_of rfl (TOp_exact rfl (Ex_load tys_of rfl rfl rfl lies_find rfl) ?_)
    refine TM_ops 2 tys_of rfl (TOp_buildSliceC tys_of rfl rfl rfl rfl rfl rfl rfl rfl fun b27 => ?_)
    refine TN.rownew b27 1 1 ([x].map iv) rfl rfl rfl ?_
    refine TM_ops 0 tys_of rfl (TOp_calls rfl rfl cl_slices_Insert_int_int (insertEnd_fn _ s ⟨some ⟨b27, 0, none⟩, 1, 1⟩ xs [x] (below xs x) (hend (by simpa using h19)) (by simp) (by simp; omega)) fun y28 h28 => ?_)
    refine TM_ops 2 tys_of rfl (TOp_store tys_of rfl rfl rfl rfl rfl rfl rfl rfl ?_)
    refine TM_run 10 tys_of rfl ?_
    have hm : ¬ xs.contains x = true := by simpa using h19
    rw [show putB xs x = xs ++ [x] from by unfold putB insI; rw [if_neg hm, hend hm]; simp]
    refine TN.as p (cel p T_bag_Bag_int [y28.val]) rfl ?_
    refine TN.shut (Bag p (xs ++ [x])) rfl y28 ⟨by simpa using h28, by have := hok.put h0 h1; unfold putB insI at this; rw [if_neg hm, hend hm] at this; simpa using this⟩ ?_
    refine TN_rets tys_of () (.inl rfl) rfl (rs := [.tmp 4]) rfl (vs := [_]) ⟨rfl, trivial⟩ rfl trivial
  · refine TM_run 11 tys_of rfl ?_
    rw [show putB xs x = xs from by unfold putB; rw [if_pos (by simpa using h19)]]
    refine TN.shut (Bag p xs) rfl s hs ?_
    refine TN_rets tys_of () (.inl rfl) rfl (rs := [.tmp 4]) rfl (vs := [_]) ⟨rfl, trivial⟩ rfl trivial
end Go.Sl.Tz

/-
  The contracts of header.Decode, layout.IsRef, and of package image's reads.
-/
namespace Go.Sl.Tz
open Go Go.Proofs Go.Sl
set_option maxRecDepth 100000

def hdr0 : HdrM := ⟨0, 0, 0⟩
def rawH (w : Nat) : HdrM := ⟨(fldN w (32, 8) : Nat), (fldN w (16, 16) : Nat), (fldN w (0, 16) : Nat)⟩
def decH (w : Nat) : HdrM × Int := if fldN w (40, 16) = 0 ∧ fldN w (56, 8) = 165 ∧ mayH (rawH w) = true then (rawH w, 0) else (hdr0, 4)
theorem headDecode_fn (S : Hp) (w : Nat) (hw : w < 2 ^ 64) : FNs S prog F_header_Decode #[uv w] [] (fun _ : Unit => .tuple #[hdrV (decH w).1, iv (decH w).2]) (fun _ => True) (fun _ => []) := by
  refine FNs_of_body func_header_Decode rfl ntmps_header_Decode rfl (fun R w0 => TM_start ?_)
  refine TM_ops 2 tys_of rfl (TOp_alloc tys_of rfl rfl rfl fun b2 => ?_)
  refine TM_ops 6 tys_of rfl (TOp_calls rfl rfl cl_header_fields (fields_fn _) fun y9 h9 => ?_)
  refine TM_ops 0 tys_of rfl (TOp_calls rfl rfl cl_field_Unpack (unpack_fn _ w hw y9 fieldsH (by decide) (by decide) (by decide) (by decide)) fun y10 h10 => ?_)
  refine TM_run 5 tys_of rfl ?_
  have h1 := fldN_le w (0, 16)
  have h2 := fldN_le w (16, 16)
  have h3 := fldN_le w (32, 8)
  rw [show maskF (0, 16) >>> 0 = 65535 by decide] at h1
  rw [show maskF (16, 16) >>> 16 = 65535 by decide] at h2
  rw [show maskF (32, 8) >>> 32 = 255 by decide] at h3
  refine TN.rowlen y10 fun hn10 => ?_
  replace hn10 : y10.n = 5 := by simpa [unpackF, fieldsH] using hn10.symm
  refine TN.rowopen y10 (by omega) fun g pre sp ha hrow => ?_
  refine TM_run 3 tys_of rfl ?_
  refine TM_draw (by kernel_rfl) (sep [cel g T_uint64 (pre ++ (List.map uv (unpackF w fieldsH) ++ sp)), cel b2 141 (cellsL y141.zero)]) 15 ?_
  refine TA_reads (fuel := 2) [0, 1, 2, 3, 4, 5, 6, 7, 8, 9, 10, 11, 12] rfl (fun _ _ _ h => h) (by decide +kernel) (by decide +kernel) (by decide +kernel) (by decide +kernel) ent_takes ?_
  refine TR_puresN 1 tys_of rfl (TR_exact rfl (Ex_indexS (sz := 1) (m := 2) tys_of rfl rfl ha rfl rfl rfl (by omega)) ?_)
  refine TR_puresN 0 tys_of rfl (TR_exact rfl (Ex_load tys_of rfl rfl rfl keep_find (loadL_row (loadL_one rfl (v := uv (fldN w (32, 8))) rfl))) ?_)
  refine TR_puresN 1 tys_of rfl ?_
  rw [wrap_i64 (x := (↑(fldN w (32, 8)) : Int)) (by omega) (by omega)]
  refine TR_puresN 1 tys_of rfl (TR_exact rfl (Ex_indexS (sz := 1) (m := 1) tys_of rfl rfl ha rfl rfl rfl (by omega)) ?_)
  refine TR_puresN 0 tys_of rfl (TR_exact rfl (Ex_load tys_of rfl rfl rfl keep_find (loadL_row (loadL_one rfl (v := uv (fldN w (16, 16))) rfl))) ?_)
  refine TR_puresN 1 tys_of rfl ?_
  rw [wrap_i64 (x := (↑(fldN w (16, 16)) : Int)) (by omega) (by omega)]
  refine TR_puresN 1 tys_of rfl (TR_exact rfl (Ex_indexS (sz := 1) (m := 0) tys_of rfl rfl ha rfl rfl rfl (by omega)) ?_)
  refine TR_puresN 0 tys_of rfl (TR_exact rfl (Ex_load tys_of rfl rfl rfl keep_find (loadL_row (loadL_one rfl (v := uv (fldN w (0, 16))) rfl))) ?_)
  refine TR_puresN 1 tys_of rfl ?_
  rw [wrap_i64 (x := (↑(fldN w (0, 16)) : Int)) (by omega) (by omega)]
  refine TR_puresN 1 tys_of rfl (TR_done ?_)
  refine TA_one (fuel := 1) 13 (by decide +kernel) (TOp_alloc tys_of rfl rfl rfl fun b6 => ?_)
  refine TB_low ent_takes ?_
  refine TA_one (fuel := 0) 14 (by decide +kernel) (TOp_store tys_of rfl rfl rfl rfl rfl rfl rfl rfl ?_)
  refine TB_low ent_takes ?_
  refine TM_drawn ?_ (by decide +kernel)
  refine TM_ops 5 tys_of rfl (TOp_exact rfl (Ex_indexS (sz := 1) (m := 3) tys_of rfl rfl ha rfl rfl rfl (by omega)) ?_)
  refine TM_ops 0 tys_of rfl (TOp_exact rfl (Ex_load tys_of rfl rfl rfl lies_find (loadL_row (loadL_one rfl (v := uv (fldN w (40, 16))) rfl))) ?_)
  refine TM_run 2 tys_of rfl ?_
  refine TM_ne (t := 30) rfl (fun h30 => ?_) (fun h30 => ?_)
  · refine TM_ops 16 tys_of rfl (TOp_store tys_of rfl rfl rfl rfl rfl rfl rfl rfl ?_)
    refine TM_run 5 tys_of rfl ?_
    rw [show decH w = (hdr0, 4) from if_neg fun h => by have := h.1; omega]
    refine TN.rowclose hrow ?_
    refine TN_rets tys_of () (.inl rfl) rfl (rs := [.cell 2 141, .tmp 3]) rfl (vs := [_, _]) ⟨⟨_, _, _, _, _, _, rfl, rfl, lies_find, rfl⟩, rfl, trivial⟩ rfl trivial
  · refine TM_ops 1 tys_of rfl (TOp_exact rfl (Ex_indexS (sz := 1) (m := 4) tys_of rfl rfl ha rfl rfl rfl (by omega)) ?_)
    refine TM_ops 0 tys_of rfl (TOp_exact rfl (Ex_load tys_of rfl rfl rfl lies_find (loadL_row (loadL_one rfl (v := uv (fldN w (56, 8))) rfl))) ?_)
    refine TM_run 3 tys_of rfl ?_
    refine TM_ne (t := 36) rfl (fun h36 => ?_) (fun h36 => ?_)
    · refine TM_ops 10 tys_of rfl (TOp_store tys_of rfl rfl rfl rfl rfl rfl rfl rfl ?_)
      refine TM_run 5 tys_of rfl ?_
      rw [show decH w = (hdr0, 4) from if_neg fun h => by have := h.2.1; omega]
      refine TN.rowclose hrow ?_
      refine TN_rets tys_of () (.inl rfl) rfl (rs := [.cell 2 141, .tmp 3]) rfl (vs := [_, _]) ⟨⟨_, _, _, _, _, _, rfl, rfl, lies_find, rfl⟩, rfl, trivial⟩ rfl trivial
    · refine TM_ops 0 tys_of rfl (TOp_exact rfl (Ex_load tys_of rfl rfl rfl lies_find rfl) ?_)
      refine TM_ops 0 tys_of rfl (TOp_calls rfl rfl cl_header_may (may_fn _ (rawH w)) fun y38 h38 => ?_)
      refine TM_run 4 tys_of rfl ?_
      refine TM_nbool (t := 40) rfl (fun h40 => ?_) (fun h40 => ?_)
      · refine TM_ops 4 tys_of rfl (TOp_store tys_of rfl rfl rfl rfl rfl rfl rfl rfl ?_)
        refine TM_run 5 tys_of rfl ?_
        rw [show decH w = (hdr0, 4) from if_neg fun h => by rw [h40] at h; cases h.2.2]
        refine TN.rowclose hrow ?_
        refine TN_rets tys_of () (.inl rfl) rfl (rs := [.cell 2 141, .tmp 3]) rfl (vs := [_, _]) ⟨⟨_, _, _, _, _, _, rfl, rfl, lies_find, rfl⟩, rfl, trivial⟩ rfl trivial
      · refine TM_ops 5 tys_of rfl (TOp_exact rfl (Ex_load tys_of rfl rfl rfl lies_find rfl) ?_)
        refine TM_ops 0 tys_of rfl (TOp_store tys_of rfl rfl rfl rfl rfl rfl rfl rfl ?_)
        refine TM_run 4 tys_of rfl ?_
        rw [show decH w = (rawH w, 0) from if_pos ⟨by omega, by omega, h40⟩]
        refine TN.rowclose hrow ?_
        refine TN_rets tys_of () (.inl rfl) rfl (rs := [.cell 2 141, .tmp 3]) rfl (vs := [_, _]) ⟨⟨_, _, _, _, _, _, rfl, rfl, lies_find, rfl⟩, rfl, trivial⟩ rfl trivial

theorem okAt_of {l : List Int} {size : Int} {k : Nat} (hk : k < l.length) (h : risesM l size = true) : okAt l size k = true := List.all_eq_true.1 h k (List.mem_range.2 hk)
theorem rises_lt {l : List Int} {size : Int} (h : risesM l size = true) {i j : Nat} (hij : i < j) (hj : j < l.length) : l.getD i 0 < l.getD j 0 := by
  induction j with
  | zero => omega
  | succ n ih =>
    have h1 := okAt_of hj h
    simp only [okAt, Bool.and_eq_true, Bool.or_eq_true, decide_eq_true_eq, beq_iff_eq] at h1
    have h2 : l.getD n 0 < l.getD (n + 1) 0 := by
      rcases h1.2 with h3 | h3
      · omega
      · simpa using h3
    rcases Nat.lt_or_eq_of_le (Nat.le_of_lt_succ hij) with h3 | h3
    · have := ih h3 (by omega); omega
    · subst h3; exact h2
theorem rises_sorted {l : List Int} {size : Int} (h : risesM l size = true) : l.Pairwise (· < ·) := by
  rw [List.pairwise_iff_getElem]
  intro i j hi hj hij
  have := rises_lt h hij hj
  rw [List.getD_eq_getElem?_getD, List.getD_eq_getElem?_getD, List.getElem?_eq_getElem hi, List.getElem?_eq_getElem hj] at this
  exact this
theorem right_sorted {l : Lay} (h : rightM l = true) : l.refs.Pairwise (· ≤ ·) ∧ l.recRefs.Pairwise (· ≤ ·) := by
  simp only [rightM, Bool.and_eq_true] at h
  exact ⟨(rises_sorted h.1.2).imp Int.le_of_lt, (rises_sorted h.2).imp Int.le_of_lt⟩
def isRefP (l : Lay) (place : Int) : Bool := if place ≥ l.fixed then l.recRefs.contains ((place - l.fixed).tmod l.record) else l.refs.contains place
def isRefR (l : Lay) (count place : Int) : Bool × Int := if (sizeR l count).2 ≠ 0 then (false, (sizeR l count).2) else if place < 0 ∨ place ≥ (sizeR l count).1 then (false, 3) else (isRefP l place, 0)
theorem sizeR_spec {l : Lay} {c : Int} (h : (sizeR l c).2 = 0) : rightM l = true ∧ 0 ≤ c ∧ c ≤ 1024 ∧ (c > 0 → l.record ≠ 0) ∧ (sizeR l c).1 = l.fixed + c * l.record ∧ (sizeR l c).1 < 8192 := by
  unfold sizeR at *
  split at h
  · cases h
  · rename_i h1
    split at h
    · cases h
    · rename_i h2
      split at h
      · cases h
      · rename_i h3
        rw [if_neg h1, if_neg h2, if_neg h3]
        exact ⟨by simpa using h1, by omega, by omega, fun hc => by omega, rfl, by dsimp only; omega⟩
theorem rec_pos {l : Lay} {c place : Int} (h : (sizeR l c).2 = 0) (h1 : ¬ place ≥ (sizeR l c).1) (h2 : place ≥ l.fixed) : l.record ≠ 0 := by
  obtain ⟨a1, a2, a3, a4, a5, a6⟩ := sizeR_spec h
  intro hr
  rw [hr] at a5
  omega
theorem isRef_fn (S : Hp) (l : Lay) (hl : LayB l) (a b : Slc) (count place : Int) : FNs S prog F_layout_IsRef #[layV l a b, iv count, iv place] (LayR l a b)
    (fun _ : Unit => .tuple #[.bool (isRefR l count place).1, iv (isRefR l count place).2]) (fun _ => True) (fun _ => LayR l a b) := by
  refine FNs_of_body func_layout_IsRef rfl ntmps_layout_IsRef rfl (fun R w0 => TM_start ?_)
  refine TM_ops 2 tys_of rfl (TOp_box rfl rfl rfl fun b3 => ?_)
  refine TM_ops 6 tys_of rfl (TOp_exact rfl (Ex_load tys_of rfl rfl rfl lies_find rfl) ?_)
  refine TM_ops 1 tys_of rfl (TOp_calls rfl rfl cl_layout_Size (size_fn _ _ (by assumption) _ _ _) fun y17 h17 => ?_)
  refine TM_run 16 tys_of rfl ?_
  refine TM_ne (t := 20) rfl (fun h20 => ?_) (fun h20 => ?_)
  · refine TM_run 11 tys_of rfl ?_
    refine TN_rets tys_of () (.inl rfl) rfl (rs := [.tmp 6, .tmp 7]) rfl (vs := [_, _]) ⟨rfl, rfl, trivial⟩ (by simp [retV, isRefR, isRefP, h17, h20]) trivial
  · obtain ⟨hr, hc1, hc2, hc3, hc4, hc5⟩ := sizeR_spec h20
    obtain ⟨hf1, hf2, hf3, hf4⟩ := rightM_le hr
    refine TM_run 6 tys_of rfl ?_
    refine TM_dec (t := 27) rfl (fun h27 => ?_) (fun h27 => ?_)
    · refine TM_run 17 tys_of rfl ?_
      refine TN_rets tys_of () (.inl rfl) rfl (rs := [.tmp 6, .tmp 7]) rfl (vs := [_, _]) ⟨rfl, rfl, trivial⟩ (by simp [retV, isRefR, isRefP, h17, h20, h27]) trivial
    · refine TM_run 7 tys_of rfl ?_
      refine TM_dec (t := 24) rfl (fun h24 => ?_) (fun h24 => ?_)
      · refine TM_run 10 tys_of rfl ?_
        refine TN_rets tys_of () (.inl rfl) rfl (rs := [.tmp 6, .tmp 7]) rfl (vs := [_, _]) ⟨rfl, rfl, trivial⟩ (by simp [retV, isRefR, isRefP, h17, h20, h27, h24]) trivial
      · refine TM_ops 7 tys_of rfl (TOp_exact rfl (Ex_load tys_of rfl rfl rfl lies_find rfl) ?_)
        refine TM_ops 10 tys_of rfl (TOp_exact rfl (Ex_load tys_of rfl rfl rfl lies_find rfl) ?_)
        refine TM_run 3 tys_of rfl ?_
        refine TM_dec (t := 38) rfl (fun h38 => ?_) (fun h38 => ?_)
        · have hrec := rec_pos h20 (by omega) h38
          refine TM_run 1 tys_of rfl ?_
          refine TM_draw (by kernel_rfl) (sep [cel b3 111 (cellsL (layV l a b, 0).fst)]) 11 ?_
          refine TA_reads (fuel := 0) [0, 1, 2, 3, 4, 5, 6, 7, 8, 9, 10] rfl (fun _ _ _ h => h) (by decide +kernel) (by decide +kernel) (by decide +kernel) (by decide +kernel) ent_takes ?_
          refine TR_puresN 1 tys_of rfl (TR_exact rfl (Ex_load tys_of rfl rfl rfl keep_find rfl) ?_)
          refine TR_puresN 2 tys_of rfl (TR_exact rfl (Ex_load tys_of rfl rfl rfl keep_find rfl) ?_)
          refine TR_puresN 1 tys_of rfl ?_
          rw [wrap_i64 (x := place - l.fixed) (by omega) (by omega)]
          refine TR_puresN 1 tys_of rfl (TR_exact rfl (Ex_load tys_of rfl rfl rfl keep_find rfl) ?_)
          refine TR_puresN 0 tys_of rfl (TR_exact rfl (Ex_rem rfl rfl rfl (by omega)) ?_)
          refine TR_puresN 2 tys_of rfl (TR_done ?_)
          refine TM_drawn ?_ (by decide +kernel)
          refine TM_ops 5 tys_of rfl (TOp_calls rfl rfl cl_slices_BinarySearch_int_int (bsearch_fn _ _ l.recRefs (by exact (right_sorted hr).2) (by (have := hl.recRefs; omega)) _) fun y51 h51 => ?_)
          refine TM_run 15 tys_of rfl ?_
          refine TN_rets tys_of () (.inl rfl) rfl (rs := [.tmp 6, .tmp 7]) rfl (vs := [_, _]) ⟨rfl, rfl, trivial⟩ (by simp [retV, isRefR, isRefP, h17, h20, h27, h24, h38, h51]) trivial
        · refine TM_ops 7 tys_of rfl (TOp_calls rfl rfl cl_slices_BinarySearch_int_int (bsearch_fn _ _ l.refs (by exact (right_sorted hr).1) (by (have := hl.refs; omega)) _) fun y51 h51 => ?_)
          refine TM_run 15 tys_of rfl ?_
          refine TN_rets tys_of () (.inl rfl) rfl (rs := [.tmp 6, .tmp 7]) rfl (vs := [_, _]) ⟨rfl, rfl, trivial⟩ (by simp [retV, isRefR, isRefP, h17, h20, h27, h24, h38, h51]) trivial
end Go.Sl.Tz

/-
  The contracts of package image's reads: find, word, Load.
-/
namespace Go.Sl.Tz
open Go Go.Proofs Go.Sl
set_option maxRecDepth 100000

theorem readR_lt {σ : StoreM} (h : StoreOK σ) (addr : Int) : readR σ addr < 2 ^ 64 := by
  unfold readR
  split
  · rw [List.getD_eq_getElem?_getD]
    cases he : σ.w[addr.toNat]? with
    | none => decide
    | some y => exact h.wb y (List.mem_of_getElem? he)
  · decide
def findR (ls : List Lay) (σ : StoreM) (addr : Int) : HdrM × Lay × Int × Int :=
  if atR σ addr 1 ≠ 0 then (hdr0, lay0, 0, atR σ addr 1)
  else if (decH (readR σ addr)).2 ≠ 0 then (hdr0, lay0, 0, (decH (readR σ addr)).2)
  else ((decH (readR σ addr)).1, imgSize ls (decH (readR σ addr)).1)
theorem imgFind_fn (S : Hp) (p st bk : Nat) (ls : List Lay) (σ : StoreM) (addr : Int) : FNs S prog F_image_Images_find #[pv p, iv addr] [Img p st bk, Book bk ls, Store st σ]
    (fun r : Slc × Slc => .tuple #[hdrV (findR ls σ addr).1, layV (findR ls σ addr).2.1 r.1 r.2, iv (findR ls σ addr).2.2.1, iv (findR ls σ addr).2.2.2]) (fun _ => True)
    (fun r => Img p st bk :: Book bk ls :: Store st σ :: LayR (findR ls σ addr).2.1 r.1 r.2) := by
  refine FNs_of_body func_image_Images_find rfl ntmps_image_Images_find rfl (fun R w0 => TM_start ?_)
  refine TN.packed (Store st σ) rfl fun x hx => ?_
  have hlt := readR_lt hx.1 addr
  refine TM_ops 2 tys_of rfl (TOp_alloc tys_of rfl rfl rfl fun b4 => ?_)
  refine TM_ops 0 tys_of rfl (TOp_alloc tys_of rfl rfl rfl fun b5 => ?_)
  refine TM_run 9 tys_of rfl ?_
  refine TN.re (Img p st bk) (cel p T_image_Images [pv st, pv bk]) rfl ?_
  refine TM_op (TOp_exact rfl (Ex_load tys_of rfl rfl rfl lies_find rfl) ?_)
  refine TM_ops 1 tys_of rfl (TOp_calls rfl rfl cl_store_Store_Read (read_fn _ _ σ _) fun y19 h19 => ?_)
  refine TM_run 14 tys_of rfl ?_
  refine TM_ne (t := 23) rfl (fun h23 => ?_) (fun h23 => ?_)
  · refine TM_ops 6 tys_of rfl (TOp_store tys_of rfl rfl rfl rfl rfl rfl rfl rfl ?_)
    refine TM_ops 0 tys_of rfl (TOp_store tys_of rfl rfl rfl rfl rfl rfl rfl rfl ?_)
    refine TM_run 6 tys_of rfl ?_
    rw [show findR ls σ addr = (hdr0, lay0, 0, atR σ addr 1) from if_pos h23]
    refine TN.nilrow T_int 1 (xs := lay0.refs.map iv) rfl ?_
    refine TN.nilrow T_int 1 (xs := lay0.recRefs.map iv) rfl ?_
    refine TN.as p (Img p st bk) rfl ?_
    refine TN_rets tys_of (nilS, nilS) (.inl rfl) rfl (rs := [.cell 4 141, .cell 5 111, .tmp 6, .tmp 7]) rfl (vs := [_, _, _, _]) ⟨⟨_, _, _, _, _, _, rfl, rfl, lies_find, rfl⟩, ⟨_, _, _, _, _, _, rfl, rfl, lies_find, rfl⟩, rfl, rfl, trivial⟩ rfl trivial
  · refine TM_ops 6 tys_of rfl (TOp_calls rfl rfl cl_header_Decode (headDecode_fn _ _ (by assumption)) fun y29 h29 => ?_)
    refine TM_ops 3 tys_of rfl (TOp_alloc tys_of rfl rfl rfl fun b10 => ?_)
    refine TM_ops 0 tys_of rfl (TOp_store tys_of rfl rfl rfl rfl rfl rfl rfl rfl ?_)
    refine TM_run 10 tys_of rfl ?_
    refine TM_ne (t := 33) rfl (fun h33 => ?_) (fun h33 => ?_)
    · refine TM_ops 6 tys_of rfl (TOp_store tys_of rfl rfl rfl rfl rfl rfl rfl rfl ?_)
      refine TM_ops 0 tys_of rfl (TOp_store tys_of rfl rfl rfl rfl rfl rfl rfl rfl ?_)
      refine TM_run 6 tys_of rfl ?_
      rw [show findR ls σ addr = (hdr0, lay0, 0, (decH (readR σ addr)).2) from by unfold findR; rw [if_neg (by simpa using h23), if_pos h33]]
      refine TN.nilrow T_int 1 (xs := lay0.refs.map iv) rfl ?_
      refine TN.nilrow T_int 1 (xs := lay0.recRefs.map iv) rfl ?_
      refine TN.as p (Img p st bk) rfl ?_
      refine TN_rets tys_of (nilS, nilS) (.inl rfl) rfl (rs := [.cell 4 141, .cell 5 111, .tmp 6, .tmp 7]) rfl (vs := [_, _, _, _]) ⟨⟨_, _, _, _, _, _, rfl, rfl, lies_find, rfl⟩, ⟨_, _, _, _, _, _, rfl, rfl, lies_find, rfl⟩, rfl, rfl, trivial⟩ rfl trivial
    · refine TM_ops 6 tys_of rfl (TOp_exact rfl (Ex_load tys_of rfl rfl rfl lies_find rfl) ?_)
      refine TM_run 0 tys_of rfl ?_
      refine TN.as p (Img p st bk) rfl ?_
      refine TM_op (TOp_calls rfl rfl cl_image_Images_size (imgSize_fn _ _ st bk ls _) fun y40 h40 => ?_)
      refine TM_ops 4 tys_of rfl (TOp_alloc tys_of rfl rfl rfl fun b11 => ?_)
      refine TM_ops 0 tys_of rfl (TOp_store tys_of rfl rfl rfl rfl rfl rfl rfl rfl ?_)
      refine TM_run 5 tys_of rfl ?_
      refine TM_draw (by kernel_rfl) (sep [cel b11 111 (setAll (cellsL y111.zero) 0 (cellsL (layV (imgSize ls (decH (readR σ addr)).fst).fst y40.fst y40.snd))), cel b10 141 (setAll (cellsL y141.zero) 0 (cellsL (hdrV (decH (readR σ addr)).fst)))]) 8 ?_
      refine TA_reads (fuel := 4) [0, 1, 2, 3] rfl (fun _ _ _ h => h) (by decide +kernel) (by decide +kernel) (by decide +kernel) (by decide +kernel) ent_takes ?_
      refine TR_puresN 0 tys_of rfl (TR_exact rfl (Ex_load tys_of rfl rfl rfl keep_find rfl) ?_)
      refine TR_puresN 0 tys_of rfl (TR_exact rfl (Ex_load tys_of rfl rfl rfl keep_find rfl) ?_)
      refine TR_puresN 2 tys_of rfl (TR_done ?_)
      refine TA_one (fuel := 3) 4 (by decide +kernel) (TOp_store tys_of rfl rfl rfl rfl rfl rfl rfl rfl ?_)
      refine TB_low ent_takes ?_
      refine TA_one (fuel := 2) 5 (by decide +kernel) (TOp_store tys_of rfl rfl rfl rfl rfl rfl rfl rfl ?_)
      refine TB_low ent_takes ?_
      refine TA_frees (fuel := 0) [6, 7] rfl (fun _ _ _ h => h) (by decide +kernel) ?_
      refine TR_puresN 2 tys_of rfl (TR_done ?_)
      refine TM_drawn ?_ (by decide +kernel)
      refine TM_run 2 tys_of rfl ?_
      rw [show findR ls σ addr = ((decH (readR σ addr)).1, imgSize ls (decH (readR σ addr)).1) from by unfold findR; rw [if_neg (by simpa using h23), if_neg (by simpa using h33)]]
      refine TN_rets tys_of (y40.fst, y40.snd) (.inl rfl) rfl (rs := [.cell 4 141, .cell 5 111, .tmp 6, .tmp 7]) rfl (vs := [_, _, _, _]) ⟨⟨_, _, _, _, _, _, rfl, rfl, lies_find, rfl⟩, ⟨_, _, _, _, _, _, rfl, rfl, lies_find, rfl⟩, rfl, rfl, trivial⟩ rfl trivial
def wordR (ls : List Lay) (σ : StoreM) (addr place : Int) (ref : Bool) : Int × Int :=
  if (findR ls σ addr).2.2.2 ≠ 0 then (0, (findR ls σ addr).2.2.2)
  else if (isRefR (findR ls σ addr).2.1 (findR ls σ addr).1.count place).2 ≠ 0 then (0, (isRefR (findR ls σ addr).2.1 (findR ls σ addr).1.count place).2)
  else if ((isRefR (findR ls σ addr).2.1 (findR ls σ addr).1.count place).1 == ref) = false then (0, 9) else (addr + 1 + place, 0)
theorem findR_b {ls : List Lay} (h : BookOK ls) (σ : StoreM) (addr : Int) : LayB (findR ls σ addr).2.1 := by
  unfold findR
  split
  · exact ⟨(by decide : ([] : List Int).length < 2 ^ 32), (by decide : ([] : List Int).length < 2 ^ 32)⟩
  · split
    · exact ⟨(by decide : ([] : List Int).length < 2 ^ 32), (by decide : ([] : List Int).length < 2 ^ 32)⟩
    · show LayB (imgSize ls _).1
      unfold imgSize
      split <;> exact bookGet_b h _
theorem atR_lt {σ : StoreM} {a n : Int} (h : atR σ a n = 0) (hn : 1 ≤ n) : 0 ≤ a ∧ a < σ.w.length := by
  unfold atR at h
  split at h
  · cases h
  · omega
theorem findR_at {ls : List Lay} {σ : StoreM} {addr : Int} (h : (findR ls σ addr).2.2.2 = 0) : 0 ≤ addr ∧ addr < σ.w.length := by
  unfold findR at h
  split at h
  · rename_i h1; exact absurd h h1
  · rename_i h1; exact atR_lt (by simpa using h1) (by omega)
theorem isRefR_lt {l : Lay} {c place : Int} (h : (isRefR l c place).2 = 0) : 0 ≤ place ∧ place < 8192 := by
  unfold isRefR at h
  split at h
  · rename_i h1; exact absurd h h1
  · rename_i h1
    split at h
    · cases h
    · have := (sizeR_spec (by simpa using h1)).2.2.2.2.2
      omega
theorem imgWord_fn (S : Hp) (p st bk : Nat) (ls : List Lay) (σ : StoreM) (addr place : Int) (ref : Bool) : FNs S prog F_image_Images_word #[pv p, iv addr, iv place, .bool ref] [Img p st bk, Book bk ls, Store st σ]
    (fun _ : Unit => .tuple #[iv (wordR ls σ addr place ref).1, iv (wordR ls σ addr place ref).2]) (fun _ => True) (fun _ => [Img p st bk, Book bk ls, Store st σ]) := by
  refine FNs_of_body func_image_Images_word rfl ntmps_image_Images_word rfl (fun R w0 => TM_start ?_)
  refine TN.packed (Store st σ) rfl fun x hx => ?_
  have hw2 := hx.1.wl2
  refine TN.packed (Book bk ls) rfl fun bx hbx => ?_
  refine TM_ops 20 tys_of rfl (TOp_calls rfl rfl cl_image_Images_find (imgFind_fn _ _ st bk ls σ _) fun y20 h20 => ?_)
  refine TM_ops 5 tys_of rfl (TOp_alloc tys_of rfl rfl rfl fun b10 => ?_)
  refine TM_ops 0 tys_of rfl (TOp_alloc tys_of rfl rfl rfl fun b11 => ?_)
  refine TM_ops 0 tys_of rfl (TOp_store tys_of rfl rfl rfl rfl rfl rfl rfl rfl ?_)
  refine TM_ops 0 tys_of rfl (TOp_store tys_of rfl rfl rfl rfl rfl rfl rfl rfl ?_)
  refine TM_run 11 tys_of rfl ?_
  refine TM_ne (t := 26) rfl (fun h26 => ?_) (fun h26 => ?_)
  · refine TM_run 10 tys_of rfl ?_
    refine TN_rets tys_of () (.inl rfl) rfl (rs := [.tmp 8, .tmp 9]) rfl (vs := [_, _]) ⟨rfl, rfl, trivial⟩ (by simp [retV, wordR, h20, h26]) trivial
  · obtain ⟨ha1, ha2⟩ := findR_at h26
    refine TM_ops 5 tys_of rfl (TOp_exact rfl (Ex_load tys_of rfl rfl rfl lies_find rfl) ?_)
    refine TM_ops 1 tys_of rfl (TOp_exact rfl (Ex_load tys_of rfl rfl rfl lies_find rfl) ?_)
    refine TM_ops 1 tys_of rfl (TOp_calls rfl rfl cl_layout_IsRef (isRef_fn _ _ (by exact findR_b hbx.2.1 _ _) _ _ _ _) fun y33 h33 => ?_)
    refine TM_run 16 tys_of rfl ?_
    refine TM_ne (t := 36) rfl (fun h36 => ?_) (fun h36 => ?_)
    · refine TM_run 11 tys_of rfl ?_
      refine TN_rets tys_of () (.inl rfl) rfl (rs := [.tmp 8, .tmp 9]) rfl (vs := [_, _]) ⟨rfl, rfl, trivial⟩ (by simp [retV, wordR, h20, h26, h33, h36]) trivial
    · obtain ⟨hp1, hp2⟩ := isRefR_lt h36
      refine TM_run 9 tys_of rfl ?_
      refine TM_nbool (t := 40) rfl (fun h40 => ?_) (fun h40 => ?_)
      · refine TM_run 10 tys_of rfl ?_
        refine TN_rets tys_of () (.inl rfl) rfl (rs := [.tmp 8, .tmp 9]) rfl (vs := [_, _]) ⟨rfl, rfl, trivial⟩ (by simp [retV, wordR, h20, h26, h33, h36, h40]) trivial
      · refine TM_run 8 tys_of rfl ?_
        rw [wrap_i64 (x := addr + 1) (by omega) (by omega)]
        refine TM_run 2 tys_of rfl ?_
        rw [wrap_i64 (x := addr + 1 + place) (by omega) (by omega)]
        refine TM_run 5 tys_of rfl ?_
        refine TN_rets tys_of () (.inl rfl) rfl (rs := [.tmp 8, .tmp 9]) rfl (vs := [_, _]) ⟨rfl, rfl, trivial⟩ (by simp [retV, wordR, h20, h26, h33, h36, h40]) trivial
def readUR (ls : List Lay) (σ : StoreM) (addr place : Int) (ref : Bool) : Nat × Int :=
  if (wordR ls σ addr place ref).2 ≠ 0 then (0, (wordR ls σ addr place ref).2) else if atR σ (wordR ls σ addr place ref).1 1 ≠ 0 then (0, atR σ (wordR ls σ addr place ref).1 1) else (readR σ (wordR ls σ addr place ref).1, 0)
theorem readU_fn (S : Hp) (p st bk : Nat) (ls : List Lay) (σ : StoreM) (addr place : Int) (ref : Bool) : FNs S prog F_image_read_uint64 #[pv p, iv addr, iv place, .bool ref, .func (.func F_store_Store_Read) #[] #[]] [Img p st bk, Book bk ls, Store st σ]
    (fun _ : Unit => .tuple #[uv (readUR ls σ addr place ref).1, iv (readUR ls σ addr place ref).2]) (fun _ => True) (fun _ => [Img p st bk, Book bk ls, Store st σ]) := by
  refine FNs_of_body func_image_read_uint64 rfl ntmps_image_read_uint64 rfl (fun R w0 => TM_start ?_)
  refine TM_ops 17 tys_of rfl (TOp_calls rfl rfl cl_image_Images_word (imgWord_fn _ _ st bk ls σ _ _ _) fun y21 h21 => ?_)
  refine TM_run 14 tys_of rfl ?_
  refine TM_ne (t := 25) rfl (fun h25 => ?_) (fun h25 => ?_)
  · refine TM_run 11 tys_of rfl ?_
    refine TN_rets tys_of () (.inl rfl) rfl (rs := [.tmp 10, .tmp 11]) rfl (vs := [_, _]) ⟨rfl, rfl, trivial⟩ (by simp [retV, readUR, h21, h25]) trivial
  · refine TM_run 9 tys_of rfl ?_
    refine TN.re (Img p st bk) (cel p T_image_Images [pv st, pv bk]) rfl ?_
    refine TM_op (TOp_exact rfl (Ex_load tys_of rfl rfl rfl lies_find rfl) ?_)
    refine TM_ops 1 tys_of rfl (TOp_calls rfl rfl cl_store_Store_Read (read_fn _ _ σ _) fun y35 h35 => ?_)
    refine TM_run 14 tys_of rfl ?_
    refine TM_ne (t := 39) rfl (fun h39 => ?_) (fun h39 => ?_)
    · refine TM_run 11 tys_of rfl ?_
      refine TN.as p (Img p st bk) rfl ?_
      refine TN_rets tys_of () (.inl rfl) rfl (rs := [.tmp 10, .tmp 11]) rfl (vs := [_, _]) ⟨rfl, rfl, trivial⟩ (by simp [retV, readUR, h21, h25, h35, h39]) trivial
    · refine TM_run 11 tys_of rfl ?_
      refine TN.as p (Img p st bk) rfl ?_
      refine TN_rets tys_of () (.inl rfl) rfl (rs := [.tmp 10, .tmp 11]) rfl (vs := [_, _]) ⟨rfl, rfl, trivial⟩ (by simp [retV, readUR, h21, h25, h35, h39]) trivial
def loadR (ls : List Lay) (σ : StoreM) (addr place : Int) : Nat × Int := readUR ls σ addr place false
theorem imgLoad_fn (S : Hp) (p st bk : Nat) (ls : List Lay) (σ : StoreM) (addr place : Int) : FNs S prog F_image_Images_Load #[pv p, iv addr, iv place] [Img p st bk, Book bk ls, Store st σ]
    (fun _ : Unit => .tuple #[uv (loadR ls σ addr place).1, iv (loadR ls σ addr place).2]) (fun _ => True) (fun _ => [Img p st bk, Book bk ls, Store st σ]) := by
  refine FNs_of_body func_image_Images_Load rfl ntmps_image_Images_Load rfl (fun R w0 => TM_start ?_)
  refine TM_ops 11 tys_of rfl (TOp_calls rfl rfl cl_image_read_uint64 (readU_fn _ _ st bk ls σ _ _ _) fun y11 h11 => ?_)
  refine TM_run 7 tys_of rfl ?_
  refine TN_rets tys_of () (.inl rfl) rfl (rs := [.tmp 6, .tmp 7]) rfl (vs := [_, _]) ⟨rfl, rfl, trivial⟩ (by simp [retV, loadR, h11]) trivial
end Go.Sl.Tz

/-
  The contracts of package table. By mk.py out of spec/SlTable.spec.
-/
namespace Go.Sl.Tz
open Go Go.Proofs Go.Sl
set_option maxRecDepth 100000

/-! ### Fields of elements -/
theorem loadL_fld {α : Type} {c : α → List Value} {k : Nat} (hc : ∀ a, (c a).length = k) {y : Ty} (hy : aggTy y.ud = false) {l : List α} {i : Nat} (hi : i < l.length) (pre sp : List Value) (f : Nat) (hf : f < k) {v : Value} (hv : (c l[i])[f]? = some v) :
    loadL y (pre ++ (l.flatMap c ++ sp)) (pre.length + i * k + f) = some v := by
  rw [Nat.add_assoc]
  refine loadL_row ?_
  unfold loadL
  rw [hy]
  show (l.flatMap c)[i * k + f]? = some v
  rw [flat_get hc hi f hf, hv]
theorem loadL_sub {α : Type} {c : α → List Value} {k : Nat} (hc : ∀ a, (c a).length = k) {y : Ty} (hy : aggTy y.ud = true) {l : List α} {i : Nat} (hi : i < l.length) (pre sp : List Value) (f : Nat) (hf : f + y.size ≤ k) :
    loadL y (pre ++ (l.flatMap c ++ sp)) (pre.length + i * k + f) = some (.agg (sliceL (c l[i]) f y.size).toArray) := by
  rw [Nat.add_assoc]
  refine loadL_row ?_
  unfold loadL
  have hle := Nat.mul_le_mul_right k (show i + 1 ≤ l.length from hi)
  rw [Nat.add_mul, Nat.one_mul] at hle
  have hb : Nat.ble (i * k + f + y.size) (l.flatMap c).length = true := Nat.ble_eq_true_of_le (by rw [flat_length hc]; omega)
  rw [hy]
  simp only [hb]
  have h1 : ((l.take i).flatMap c).length = i * k := by rw [flat_length hc, List.length_take, Nat.min_eq_left (Nat.le_of_lt hi)]
  rw [flat_split c hi]
  have := sliceL_pre ((l.take i).flatMap c) (c l[i] ++ (l.drop (i + 1)).flatMap c) f y.size
  rw [h1] at this
  rw [this, sliceL_post _ _ _ _ (by rw [hc]; exact hf)]
theorem row_set_at {α : Type} {c : α → List Value} {k : Nat} (hc : ∀ a, (c a).length = k) {l : List α} {i : Nat} (hi : i < l.length) (pre sp : List Value) (a : α) (f : Nat) (vs : List Value) (hf : f + vs.length ≤ k) (hs : setAll (c l[i]) f vs = c a) :
    setAll (pre ++ (l.flatMap c ++ sp)) (pre.length + i * k + f) vs = pre ++ ((l.set i a).flatMap c ++ sp) := by
  have hle := Nat.mul_le_mul_right k (show i + 1 ≤ l.length from hi)
  rw [Nat.add_mul, Nat.one_mul] at hle
  rw [Nat.add_assoc, setAll_pre, setAll_post _ _ _ _ (by rw [flat_length hc]; omega), flat_set_at hc hi a f vs hf hs]
theorem row_room {α : Type} {c : α → List Value} {k : Nat} (hc : ∀ a, (c a).length = k) {l : List α} {i : Nat} (hi : i < l.length) (pre sp : List Value) (f n : Nat) (hf : f + n ≤ k) : pre.length + i * k + f + n ≤ (pre ++ (l.flatMap c ++ sp)).length := by
  have hle := Nat.mul_le_mul_right k (show i + 1 ≤ l.length from hi)
  rw [Nat.add_mul, Nat.one_mul] at hle
  simp only [List.length_append, flat_length hc]
  omega

theorem row_set_again {α : Type} {c : α → List Value} {k : Nat} (hc : ∀ a, (c a).length = k) {l : List α} {i : Nat} (hi : i < l.length) (pre sp : List Value) (a0 a : α) (f : Nat) (vs : List Value) (hf : f + vs.length ≤ k) (hs : setAll (c a0) f vs = c a) :
    setAll (pre ++ ((l.set i a0).flatMap c ++ sp)) (pre.length + i * k + f) vs = pre ++ ((l.set i a).flatMap c ++ sp) := by
  have hi' : i < (l.set i a0).length := by simpa using hi
  rw [row_set_at hc hi' pre sp a f vs hf (by rw [List.getElem_set_self]; exact hs), List.set_set]

structure EntM where
  addr : Int
  region : Int
  held : Bool
  pinned : Bool
structure SlotM where
  gen : Int
  used : Bool
  entry : EntM
def ent0 : EntM := ⟨0, 0, false, false⟩
abbrev entC (e : EntM) : List Value := [iv e.addr, iv e.region, .bool e.held, .bool e.pinned]
abbrev entV (e : EntM) : Value := .agg #[iv e.addr, iv e.region, .bool e.held, .bool e.pinned]
def slotC (x : SlotM) : List Value := [iv x.gen, .bool x.used, iv x.entry.addr, iv x.entry.region, .bool x.entry.held, .bool x.entry.pinned]
theorem slotC_len (x : SlotM) : (slotC x).length = 6 := rfl
theorem slotC_cells (x : SlotM) : (slotC x).all isCell = true := rfl
abbrev tokV (t : Int × Int) : Value := .agg #[iv t.1, iv t.2]
structure TableM where
  l : List SlotM
  taken : List Bool
  gone : Int
structure TableOK (τ : TableM) : Prop where
  l1 : 1 ≤ τ.l.length
  l2 : τ.l.length ≤ 4096
  tl : τ.taken.length = τ.l.length
  gens : ∀ x ∈ τ.l, 0 ≤ x.gen ∧ x.gen ≤ 255
  free : ∀ i, i < τ.l.length → τ.taken.getD i false = false → (τ.l.getD i ⟨0, false, ⟨0, 0, false, false⟩⟩).gen ≤ 254
def Tbl (p : Nat) (τ : TableM) : HProp := Pack (fun x : Slc × Nat => TableOK τ ∧ τ.l.length = x.1.n)
  (fun x => [cel p T_table_Table [x.1.val, .pointer (some ⟨x.2, 0, none⟩), iv τ.gone], Row x.1 T_table_slot 6 (τ.l.flatMap slotC), Bmp x.2 τ.taken])

def slot0 : SlotM := ⟨0, false, ent0⟩
def table0 (n : Nat) : TableM := ⟨List.replicate n slot0, List.replicate n false, 0⟩
theorem table0_ok {n : Nat} (h1 : 1 ≤ n) (h2 : n ≤ 4096) : TableOK (table0 n) :=
  ⟨by simp [table0]; omega, by simp [table0]; omega, by simp [table0], fun x hx => by rw [(List.mem_replicate.1 hx).2]; decide, fun i hi _ => by simp only [table0, List.getD, List.getElem?_replicate]; split <;> decide⟩
theorem zflat_slot (n : Nat) : zerosL n y183 = (List.replicate n slot0).flatMap slotC := by
  rw [zerosL_flat rfl]
  induction n with
  | zero => rfl
  | succ n ih => rw [List.replicate_succ, List.flatMap_cons, ← ih]; rfl

theorem tableNew_fn (S : Hp) (n : Int) : FNs S prog F_table_New #[iv n] [] (fun o : Option Nat => .tuple #[optP o, iv (optE 3 o)]) (fun o => o.isSome = true ↔ 1 ≤ n ∧ n ≤ 4096) (fun o => match o with | none => [] | some p => [Tbl p (table0 n.toNat)]) := by
  refine FNs_of_body func_table_New rfl ntmps_table_New rfl ?_
  intro R w0
  refine TC_seq ?_
  refine TC_region ?_
  refine TO_puresN 2 tys_of rfl (TO_nil ?_)
  refine TC_seq ?_
  refine TC_seq ?_
  refine TC_region ?_
  refine TO_puresN 1 tys_of rfl (TO_cons (TOp_bool tys_of rfl rfl (fun h7 => ?_) (fun h7 => ?_)))
  · -- t7 True: (Op.binOp BinOp.lss 3 (Operand.tmp 6) (Operand.const (Value.int IntKind.i64 1)) 3)
    try simp only [decide_eq_true_eq, decide_eq_false_iff_not, beq_iff_eq, bne_iff_ne, beq_eq_false_iff_ne, bne_eq_false_iff_eq, ne_eq, Bool.not_eq_true', Bool.not_eq_false', Decidable.not_not] at h7
    refine TO_puresN 4 tys_of rfl (TO_nil ?_)
    refine TC_true rfl ?_
    refine TC_seq ?_
    refine TC_region ?_
    refine TO_puresN 2 tys_of rfl (TO_nil ?_)
    refine TC_ret ?_
    repeat (first | refine TN_thenr ?_ | refine TN_blockr ?_)
    refine TN_rets tys_of none (.inl rfl) rfl (rs := [.tmp 2, .tmp 3]) rfl (vs := [_, _]) ⟨rfl, rfl, trivial⟩ rfl (by simp; omega)
  · -- t7 False: (Op.binOp BinOp.lss 3 (Operand.tmp 6) (Operand.const (Value.int IntKind.i64 1)) 3)
    try simp only [decide_eq_true_eq, decide_eq_false_iff_not, beq_iff_eq, bne_iff_ne, beq_eq_false_iff_ne, bne_eq_false_iff_eq, ne_eq, Bool.not_eq_true', Bool.not_eq_false', Decidable.not_not] at h7
    refine TO_puresN 2 tys_of rfl (TO_cons (TOp_bool tys_of rfl rfl (fun h10 => ?_) (fun h10 => ?_)))
    · -- t10 True: (Op.binOp BinOp.gtr 3 (Operand.tmp 9) (Operand.const (Value.int IntKind.i64 4096)) 3)
      try simp only [decide_eq_true_eq, decide_eq_false_iff_not, beq_iff_eq, bne_iff_ne, beq_eq_false_iff_ne, bne_eq_false_iff_eq, ne_eq, Bool.not_eq_true', Bool.not_eq_false', Decidable.not_not] at h10
      refine TO_puresN 1 tys_of rfl (TO_nil ?_)
      refine TC_true rfl ?_
      refine TC_seq ?_
      refine TC_region ?_
      refine TO_puresN 2 tys_of rfl (TO_nil ?_)
      refine TC_ret ?_
      repeat (first | refine TN_thenr ?_ | refine TN_blockr ?_)
      refine TN_rets tys_of none (.inl rfl) rfl (rs := [.tmp 2, .tmp 3]) rfl (vs := [_, _]) ⟨rfl, rfl, trivial⟩ rfl (by simp; omega)
    · -- t10 False: (Op.binOp BinOp.gtr 3 (Operand.tmp 9) (Operand.const (Value.int IntKind.i64 4096)) 3)
      try simp only [decide_eq_true_eq, decide_eq_false_iff_not, beq_iff_eq, bne_iff_ne, beq_eq_false_iff_ne, bne_eq_false_iff_eq, ne_eq, Bool.not_eq_true', Bool.not_eq_false', Decidable.not_not] at h10
      obtain ⟨n, rfl⟩ : ∃ m : Nat, n = (m : Int) := ⟨n.toNat, by omega⟩
      simp only [Int.toNat_natCast]
      refine TO_puresN 1 tys_of rfl (TO_nil ?_)
      refine TC_false rfl ?_
      refine TC_skip ?_
      refine TC_seq ?_
      refine TC_region ?_
      refine TO_puresN 1 tys_of rfl (TO_cons (TOp_calls rfl rfl cl_bitmap_New (bitmapNew_fn _ n (by omega) (by omega)) fun y14 hy14 => ?_))
      refine TO_puresN 5 tys_of rfl (TO_nil ?_)
      refine TC_seq ?_
      refine TC_region ?_
      refine TO_puresN 1 tys_of rfl (TO_cons (TOp_makeSlice tys_of rfl rfl rfl rfl rfl rfl (by omega) (by omega) (by show n * 40 ≤ _; omega) fun b18 => ?_))
      refine TN.rownew b18 n 6 ((table0 n).l.flatMap slotC) (zflat_slot n) (by rw [flat_length slotC_len]; simp [table0]) (flat_cells slotC_cells _) ?_
      refine TO_puresN 2 tys_of rfl (TO_cons (TOp_box rfl rfl rfl fun b21 => ?_))
      refine TO_puresN 2 tys_of rfl (TO_nil ?_)
      refine TC_ret ?_
      repeat (first | refine TN_thenr ?_ | refine TN_blockr ?_)
      rw [show Bmp y14 (List.replicate n false) = Bmp y14 (table0 n).taken from rfl]
      refine TN.same b21 (l' := [.slice (some ⟨b18, 0, none⟩) n n, .pointer (some ⟨y14, 0, none⟩), iv (table0 n).gone]) rfl ?_
      refine TN.fold (Tbl b21 (table0 n)) (ent_pack (⟨some ⟨b18, 0, none⟩, n, n⟩, y14) ⟨table0_ok (by omega) (by omega), by simp [table0]⟩) ?_
      refine TN_rets tys_of (some b21) (.inl rfl) rfl (rs := [.tmp 2, .tmp 3]) rfl (vs := [_, _]) ⟨rfl, rfl, trivial⟩ rfl (by simp; omega)

theorem left_fn (S : Hp) (p : Nat) (τ : TableM) : FNs S prog F_table_Table_Left #[.pointer (some ⟨p, 0, none⟩)] [Tbl p τ] (fun _ : Unit => iv ((τ.l.length : Int) - (τ.taken.count true : Nat))) (fun _ => True) (fun _ => [Tbl p τ]) := by
  refine FNs_of_body func_table_Table_Left rfl ntmps_table_Table_Left rfl ?_
  intro R w0
  refine TN.unpack fun ⟨s, q⟩ hx => ?_
  obtain ⟨hok, hn⟩ := hx
  dsimp only at hn ⊢
  refine TC_seq ?_
  refine TC_region ?_
  refine TO_puresN 1 tys_of rfl (TO_nil ?_)
  refine TC_seq ?_
  refine TC_seq ?_
  refine TC_region ?_
  refine TO_puresN 2 tys_of rfl (TO_nil ?_)
  refine TC_false rfl ?_
  refine TC_skip ?_
  refine TC_seq ?_
  refine TC_draw (by kernel_rfl) (sep [cel p T_table_Table [s.val, .pointer (some ⟨q, 0, none⟩), iv τ.gone]]) 12 ?_
  refine TA_reads (fuel := 3) [0, 1, 2, 3, 4, 5, 6, 7, 8] rfl (fun _ _ _ h => h) (by decide +kernel) (by decide +kernel) (by decide +kernel) (by decide +kernel) ent_takes ?_
  refine TR_puresN 3 tys_of rfl (TR_exact rfl (Ex_load tys_of rfl rfl rfl keep_find rfl) ?_)
  refine TR_puresN 4 tys_of rfl (TR_exact rfl (Ex_load tys_of rfl rfl rfl keep_find rfl) ?_)
  refine TR_puresN 0 tys_of rfl (TR_done ?_)
  refine TA_one (fuel := 2) 9 (by decide +kernel) (TOp_calls rfl rfl cl_bitmap_Map_Count (count_fn _ q τ.taken) fun y14 hy14 => ?_)
  refine TB_low ent_takes ?_
  refine TA_frees (fuel := 0) [10, 11] rfl (fun _ _ _ h => h) (by decide +kernel) ?_
  refine TR_puresN 1 tys_of rfl ?_
  rw [wrap_i64 (by have := hok.l2; have := List.count_le_length (a := true) (l := τ.taken); have := hok.tl; omega) (by have := hok.l2; omega)]
  refine TR_puresN 1 tys_of rfl (TR_done ?_)
  refine TA_nil ?_ (by decide +kernel)
  refine TC_ret ?_
  repeat (first | refine TN_thenr ?_ | refine TN_blockr ?_)
  refine TN.fold (Tbl p τ) (ent_pack (s, q) ⟨hok, hn⟩) ?_
  refine TN_rets tys_of () (.inl rfl) rfl (rs := [.tmp 2]) rfl (vs := [_]) ⟨rfl, trivial⟩ (by rw [hn]; rfl) trivial

theorem fillL_one {l : List Bool} {i : Nat} (h : i < l.length) (on : Bool) : fillL l (i : Int) 1 on = l.set i on := by
  unfold fillL
  rw [if_pos (by simp [fillOK]; omega)]
  simp [fillB]
theorem firstR_true {l : List Bool} (h : (firstR l 0).2 = true) : ∃ i, (firstR l 0) = (i, true) ∧ i < l.length ∧ l.getD i false = false := by
  unfold firstR at *
  split at h
  · rename_i h1
    rw [if_pos h1]
    exact ⟨_, rfl, h1, seek_at h1⟩
  · cases h
def addSlot (τ : TableM) (i : Nat) (e : EntM) : TableM := { τ with l := τ.l.set i ⟨(τ.l.getD i slot0).gen + 1, true, e⟩, taken := τ.taken.set i true }
def addT (τ : TableM) (e : EntM) : TableM := if (firstR τ.taken 0).2 = true then addSlot τ (firstR τ.taken 0).1 e else τ
def addTok (τ : TableM) : Int × Int := if (firstR τ.taken 0).2 = true then ((firstR τ.taken 0).1, (τ.l.getD (firstR τ.taken 0).1 slot0).gen + 1) else (0, 0)
def addErr (τ : TableM) : Int := if (firstR τ.taken 0).2 = true then 0 else 12
theorem addSlot_ok {τ : TableM} (h : TableOK τ) {i : Nat} (hi : i < τ.l.length) (hf : τ.taken.getD i false = false) (e : EntM) : TableOK (addSlot τ i e) := by
  have hg := h.free i hi hf
  have hmem : τ.l.getD i slot0 ∈ τ.l := by simp only [List.getD, List.getElem?_eq_getElem hi, Option.getD_some]; exact List.getElem_mem hi
  have h0 := (h.gens _ hmem).1
  refine ⟨by simpa [addSlot] using h.l1, by simpa [addSlot] using h.l2, by simpa [addSlot] using h.tl, fun x hx => ?_, fun j hj hfj => ?_⟩
  · rcases List.mem_or_eq_of_mem_set hx with h' | rfl
    · exact h.gens x h'
    · show 0 ≤ (τ.l.getD i slot0).gen + 1 ∧ (τ.l.getD i slot0).gen + 1 ≤ 255
      have : (τ.l.getD i slot0).gen ≤ 254 := hg
      omega
  · simp only [addSlot, List.length_set] at hj
    by_cases hij : i = j
    · subst hij
      have : (τ.taken.set i true).getD i false = true := by simp [List.getD, h.tl, hi]
      rw [show (addSlot τ i e).taken = τ.taken.set i true from rfl, this] at hfj
      cases hfj
    · have h1 : (addSlot τ i e).taken.getD j false = τ.taken.getD j false := by simp [addSlot, List.getD, List.getElem?_set_ne hij]
      have h2 : (addSlot τ i e).l.getD j ⟨0, false, ⟨0, 0, false, false⟩⟩ = τ.l.getD j ⟨0, false, ⟨0, 0, false, false⟩⟩ := by simp [addSlot, List.getD, List.getElem?_set_ne hij]
      rw [h1] at hfj
      rw [h2]
      exact h.free j hj hfj
theorem getS {l : List SlotM} {i : Nat} (hi : i < l.length) : l.getD i slot0 = l[i] := by simp [List.getD, hi]

theorem tableAdd_fn (S : Hp) (hS : Tab S) (p : Nat) (τ : TableM) (e : EntM) : FNs S prog F_table_Table_Add #[.pointer (some ⟨p, 0, none⟩), entV e] [Tbl p τ] (fun _ : Unit => .tuple #[tokV (addTok τ), iv (addErr τ)]) (fun _ => True) (fun _ => [Tbl p (addT τ e)]) := by
  refine FNs_of_body func_table_Table_Add rfl ntmps_table_Table_Add rfl ?_
  intro R w0
  refine TN.unpack fun ⟨s, q⟩ hx => ?_
  obtain ⟨hok, hn⟩ := hx
  dsimp only at hn ⊢
  have hl2 := hok.l2
  have htl := hok.tl
  refine TC_seq ?_
  refine TC_region ?_
  refine TO_puresN 0 tys_of rfl (TO_cons (TOp_box rfl rfl rfl fun b3 => ?_))
  refine TN.same b3 (l' := entC e) rfl ?_
  refine TO_puresN 0 tys_of rfl (TO_cons (TOp_alloc tys_of rfl rfl rfl fun b4 => ?_))
  refine TO_puresN 1 tys_of rfl (TO_nil ?_)
  refine TC_seq ?_
  refine TC_seq ?_
  refine TC_region ?_
  refine TO_puresN 2 tys_of rfl (TO_nil ?_)
  refine TC_false rfl ?_
  refine TC_skip ?_
  refine TC_seq ?_
  refine TC_region ?_
  refine TO_puresN 3 tys_of rfl (TO_cons (TOp_exact rfl (Ex_load tys_of rfl rfl rfl lies_find rfl) ?_))
  refine TO_puresN 0 tys_of rfl (TO_cons (TOp_calls rfl rfl cl_bitmap_Map_First (first_fn _ hS q τ.taken 0 (by omega)) fun y17 hy17 => ?_))
  refine TO_puresN 2 tys_of rfl (TO_cons (TOp_bool tys_of rfl rfl (fun h19 => ?_) (fun h19 => ?_)))
  · -- t19 True: (Op.extract (Operand.tmp 12) 1)
    try simp only [decide_eq_true_eq, decide_eq_false_iff_not, beq_iff_eq, bne_iff_ne, beq_eq_false_iff_ne, bne_eq_false_iff_eq, ne_eq, Bool.not_eq_true', Bool.not_eq_false', Decidable.not_not] at h19
    obtain ⟨i, hr, hi, hfree⟩ := firstR_true h19
    rw [hr]
    have hi' : i < τ.l.length := by omega
    have hgs := getS hi'
    have hg1 := hok.gens _ (List.getElem_mem hi')
    have hg2 : τ.l[i].gen ≤ 254 := by rw [← getS hi']; exact hok.free i hi' hfree
    refine TO_puresN 2 tys_of rfl (TO_nil ?_)
    refine TC_seq ?_
    refine TC_seq ?_
    refine TC_region ?_
    refine TO_puresN 2 tys_of rfl (TO_nil ?_)
    refine TC_false rfl ?_
    refine TC_skip ?_
    refine TC_seq ?_
    refine TC_region ?_
    refine TO_puresN 3 tys_of rfl (TO_cons (TOp_exact rfl (Ex_load tys_of rfl rfl rfl lies_find rfl) ?_))
    refine TO_puresN 1 tys_of rfl (TO_cons (TOp_calls rfl rfl cl_bitmap_Map_Set (set_fn _ q τ.taken (by omega) i true) fun y28 hy28 => ?_))
    rw [fillL_one hi]
    refine TN.rowopen s (by omega) fun g pre sp ha hrow => ?_
    refine TO_puresN 0 tys_of rfl (TO_nil ?_)
    refine TC_seq ?_
    refine TC_region ?_
    refine TO_puresN 3 tys_of rfl (TO_cons (TOp_exact rfl (Ex_load tys_of rfl rfl rfl lies_find rfl) ?_))
    refine TO_puresN 1 tys_of rfl (TO_cons (TOp_exact rfl (Ex_indexS (sz := 6) tys_of rfl rfl ha rfl rfl rfl (by omega)) ?_))
    refine TO_puresN 1 tys_of rfl (TO_nil ?_)
    refine TC_seq ?_
    refine TC_region ?_
    refine TO_puresN 3 tys_of rfl (TO_cons (TOp_exact rfl (Ex_load tys_of rfl rfl rfl lies_find (loadL_fld slotC_len rfl hi' pre sp 0 (by decide) rfl)) ?_))
    refine TO_puresN 1 tys_of rfl ?_
    rw [wrap_i64 (by omega) (by omega)]
    refine TO_puresN 2 tys_of rfl (TO_cons (TOp_storeP tys_of rfl rfl rfl rfl rfl rfl (row_room slotC_len hi' pre sp 0 1 (by decide)) rfl ?_))
    refine TN.same g (l' := pre ++ ((τ.l.set i ⟨τ.l[i].gen + 1, τ.l[i].used, τ.l[i].entry⟩).flatMap slotC ++ sp)) (row_set_at slotC_len hi' pre sp _ 0 _ (Nat.le_of_ble_eq_true rfl) rfl) ?_
    have hi2 : ∀ a : SlotM, i < (τ.l.set i a).length := fun a => by simpa using hi'
    refine TO_puresN 0 tys_of rfl (TO_nil ?_)
    refine TC_seq ?_
    refine TC_draw (by kernel_rfl) (sep [cel b3 T_api_Entry (entC e)]) 9 ?_
    refine TA_reads (fuel := 4) [0, 1, 2, 3, 4] rfl (fun _ _ _ h => h) (by decide +kernel) (by decide +kernel) (by decide +kernel) (by decide +kernel) ent_takes ?_
    refine TR_puresN 2 tys_of rfl (TR_exact rfl (Ex_load tys_of rfl rfl rfl keep_find rfl) ?_)
    refine TR_puresN 2 tys_of rfl (TR_done ?_)
    refine TA_one (fuel := 3) 5 (by decide +kernel) (TOp_storeP tys_of rfl rfl rfl rfl rfl rfl (row_room slotC_len (hi2 _) pre sp 1 1 (by decide)) rfl ?_)
    refine TN.same g (l' := pre ++ ((τ.l.set i ⟨τ.l[i].gen + 1, true, τ.l[i].entry⟩).flatMap slotC ++ sp)) (row_set_again slotC_len hi' pre sp _ _ 1 _ (Nat.le_of_ble_eq_true rfl) rfl) ?_
    refine TB_low ent_takes ?_
    refine TA_frees (fuel := 1) [6, 7] rfl (fun _ _ _ h => h) (by decide +kernel) ?_
    refine TR_puresN 2 tys_of rfl (TR_done ?_)
    refine TA_one (fuel := 0) 8 (by decide +kernel) (TOp_storeP tys_of rfl rfl rfl rfl rfl rfl (row_room slotC_len (hi2 _) pre sp 2 4 (by decide)) rfl ?_)
    refine TN.same g (l' := pre ++ ((τ.l.set i ⟨τ.l[i].gen + 1, true, e⟩).flatMap slotC ++ sp)) (row_set_again slotC_len hi' pre sp _ _ 2 _ (Nat.le_of_ble_eq_true rfl) rfl) ?_
    refine TB_low ent_takes ?_
    refine TA_nil ?_ (by decide +kernel)
    refine TC_seq ?_
    refine TC_region ?_
    refine TO_puresN 4 tys_of rfl (TO_cons (TOp_exact rfl (Ex_load tys_of rfl rfl rfl lies_find (loadL_fld slotC_len rfl (hi2 _) pre sp 0 (by decide) (v := iv (τ.l[i].gen + 1)) (by rw [List.getElem_set_self]; rfl))) ?_))
    refine TO_puresN 1 tys_of rfl (TO_cons (TOp_store tys_of rfl rfl rfl rfl rfl rfl rfl rfl ?_))
    refine TN.same b4 (l' := [iv i, iv (τ.l[i].gen + 1)]) rfl ?_
    refine TN.rowclose (hrow.set ((τ.l.set i ⟨τ.l[i].gen + 1, true, e⟩).flatMap slotC) (by simp [flat_length slotC_len]) (flat_cells slotC_cells _)) ?_
    refine TO_puresN 1 tys_of rfl (TO_nil ?_)
    refine TC_ret ?_
    repeat (first | refine TN_thenr ?_ | refine TN_blockr ?_)
    have ho1 : (firstR τ.taken 0).2 = true := by rw [hr]
    have hadd : addT τ e = addSlot τ i e := by unfold addT; rw [if_pos ho1, hr]
    have htok : addTok τ = ((i : Int), τ.l[i].gen + 1) := by unfold addTok; rw [if_pos ho1, hr, ← hgs]
    have hadd2 : addSlot τ i e = ⟨τ.l.set i ⟨τ.l[i].gen + 1, true, e⟩, τ.taken.set i true, τ.gone⟩ := by unfold addSlot; rw [hgs]
    rw [hadd, hadd2]
    refine TN.fold (Tbl p ⟨τ.l.set i ⟨τ.l[i].gen + 1, true, e⟩, τ.taken.set i true, τ.gone⟩) (ent_pack (s, q) ⟨hadd2 ▸ addSlot_ok hok hi' hfree e, by simpa using hn⟩) ?_
    refine TN_rets tys_of () (.inl rfl) rfl (rs := [.cell 4 69, .tmp 5]) rfl (vs := [_, _]) ⟨⟨_, _, _, _, _, _, rfl, rfl, lies_find, rfl⟩, rfl, trivial⟩ (by rw [htok, show addErr τ = 0 from if_pos ho1]; rfl) trivial
  · -- t19 False: (Op.extract (Operand.tmp 12) 1)
    try simp only [decide_eq_true_eq, decide_eq_false_iff_not, beq_iff_eq, bne_iff_ne, beq_eq_false_iff_ne, bne_eq_false_iff_eq, ne_eq, Bool.not_eq_true', Bool.not_eq_false', Decidable.not_not] at h19
    refine TO_puresN 2 tys_of rfl (TO_nil ?_)
    refine TC_seq ?_
    refine TC_seq ?_
    refine TC_region ?_
    refine TO_puresN 2 tys_of rfl (TO_nil ?_)
    refine TC_true rfl ?_
    refine TC_seq ?_
    refine TC_region ?_
    refine TO_puresN 1 tys_of rfl (TO_cons (TOp_store tys_of rfl rfl rfl rfl rfl rfl rfl rfl ?_))
    refine TN.same b4 (l' := [iv 0, iv 0]) rfl ?_
    refine TO_puresN 1 tys_of rfl (TO_nil ?_)
    refine TC_ret ?_
    repeat (first | refine TN_thenr ?_ | refine TN_blockr ?_)
    have ho1 : ¬ (firstR τ.taken 0).2 = true := by rw [h19]; decide
    rw [show addT τ e = τ from if_neg ho1]
    refine TN.fold (Tbl p τ) (ent_pack (s, q) ⟨hok, hn⟩) ?_
    refine TN_rets tys_of () (.inl rfl) rfl (rs := [.cell 4 69, .tmp 5]) rfl (vs := [_, _]) ⟨⟨_, _, _, _, _, _, rfl, rfl, lies_find, rfl⟩, rfl, trivial⟩ (by rw [show addTok τ = (0, 0) from if_neg ho1, show addErr τ = 12 from if_neg ho1]; rfl) trivial
end Go.Sl.Tz

/-
  The contracts of package table, second part. By mk.py out of spec/SlTable2.spec.
-/
namespace Go.Sl.Tz
open Go Go.Proofs Go.Sl
set_option maxRecDepth 100000

/-- The slot that a token tells. -/
def findI (τ : TableM) (x : Int × Int) : Option Nat :=
  if 0 ≤ x.1 ∧ x.1 < τ.l.length ∧ (τ.l.getD x.1.toNat slot0).used = true ∧ (τ.l.getD x.1.toNat slot0).gen = x.2 then some x.1.toNat else none
def findV (g n : Nat) (o : Option Nat) : Value := .pointer (o.map fun i => ⟨g, n + i * 6, none⟩)
theorem findI_some {τ : TableM} {x : Int × Int} {i : Nat} (h : findI τ x = some i) : i < τ.l.length ∧ x.1 = i ∧ (τ.l.getD i slot0).used = true ∧ (τ.l.getD i slot0).gen = x.2 := by
  unfold findI at h
  split at h
  · rename_i hc
    cases h
    exact ⟨by omega, by omega, hc.2.2.1, hc.2.2.2⟩
  · cases h

theorem find_fn (S : Hp) (p g q : Nat) (τ : TableM) (s : Slc) (pre sp : List Value) (ha : s.a = some ⟨g, pre.length, none⟩) (hn : τ.l.length = s.n) (x : Int × Int) :
    FNs S prog F_table_Table_find #[.pointer (some ⟨p, 0, none⟩), tokV x] [cel p T_table_Table [s.val, .pointer (some ⟨q, 0, none⟩), iv τ.gone], cel g T_table_slot (pre ++ (τ.l.flatMap slotC ++ sp))]
      (fun o : Option Nat => .tuple #[findV g pre.length o, iv (optE 8 o)]) (fun o => o = findI τ x) (fun _ => [cel p T_table_Table [s.val, .pointer (some ⟨q, 0, none⟩), iv τ.gone], cel g T_table_slot (pre ++ (τ.l.flatMap slotC ++ sp))]) := by
  obtain ⟨x1, x2⟩ := x
  refine FNs_of_body func_table_Table_find rfl ntmps_table_Table_find rfl ?_
  intro R w0
  refine TC_seq ?_
  refine TC_region ?_
  refine TO_puresN 0 tys_of rfl (TO_cons (TOp_box rfl rfl rfl fun b3 => ?_))
  refine TN.same b3 (l' := [iv x1, iv x2]) rfl ?_
  refine TO_puresN 2 tys_of rfl (TO_nil ?_)
  refine TC_seq ?_
  refine TC_seq ?_
  refine TC_region ?_
  refine TO_puresN 2 tys_of rfl (TO_nil ?_)
  refine TC_false rfl ?_
  refine TC_skip ?_
  refine TC_seq ?_
  refine TC_seq ?_
  refine TC_draw (by kernel_rfl) (sep [cel b3 T_api_Token [iv x1, iv x2], cel p T_table_Table [s.val, .pointer (some ⟨q, 0, none⟩), iv τ.gone], cel g T_table_slot (pre ++ (τ.l.flatMap slotC ++ sp))]) 39 ?_
  refine TA_reads (fuel := 0) [0, 1, 2, 3, 4, 5, 6, 7, 8, 9, 10, 11, 12, 13, 14, 15, 16, 17, 18, 19, 20, 21, 22, 23, 24, 25, 26, 27, 28, 29, 30, 31, 32, 33, 34, 35, 36, 37, 38] rfl (fun _ _ _ h => h) (by decide +kernel) (by decide +kernel) (by decide +kernel) (by decide +kernel) ent_takes ?_
  refine TR_puresN 1 tys_of rfl (TR_exact rfl (Ex_load tys_of rfl rfl rfl keep_find rfl) ?_)
  refine TR_puresN 0 tys_of rfl (TR_bool tys_of rfl rfl (fun h10 => ?_) (fun h10 => ?_))
  · -- t10 True: (Op.binOp BinOp.lss 3 (Operand.tmp 9) (Operand.const (Value.int IntKind.i64 0)) 3)
    try simp only [decide_eq_true_eq, decide_eq_false_iff_not, beq_iff_eq, bne_iff_ne, beq_eq_false_iff_ne, bne_eq_false_iff_eq, ne_eq, Bool.not_eq_true', Bool.not_eq_false', Decidable.not_not] at h10
    refine TR_puresN 36 tys_of rfl (TR_done ?_)
    refine TA_nil ?_ (by decide +kernel)
    refine TC_true rfl ?_
    refine TC_seq ?_
    refine TC_region ?_
    refine TO_puresN 2 tys_of rfl (TO_nil ?_)
    refine TC_ret ?_
    repeat (first | refine TN_thenr ?_ | refine TN_blockr ?_)
    refine TN_rets tys_of none (.inl rfl) rfl (rs := [.tmp 4, .tmp 5]) rfl (vs := [_, _]) ⟨rfl, rfl, trivial⟩ rfl ((if_neg (fun hc => by have := hc.1; dsimp only at this; omega)).symm)
  · -- t10 False: (Op.binOp BinOp.lss 3 (Operand.tmp 9) (Operand.const (Value.int IntKind.i64 0)) 3)
    try simp only [decide_eq_true_eq, decide_eq_false_iff_not, beq_iff_eq, bne_iff_ne, beq_eq_false_iff_ne, bne_eq_false_iff_eq, ne_eq, Bool.not_eq_true', Bool.not_eq_false', Decidable.not_not] at h10
    refine TR_puresN 2 tys_of rfl (TR_exact rfl (Ex_load tys_of rfl rfl rfl keep_find rfl) ?_)
    refine TR_puresN 3 tys_of rfl (TR_exact rfl (Ex_load tys_of rfl rfl rfl keep_find rfl) ?_)
    refine TR_puresN 1 tys_of rfl (TR_bool tys_of rfl rfl (fun h19 => ?_) (fun h19 => ?_))
    · -- t19 True: (Op.binOp BinOp.geq 3 (Operand.tmp 13) (Operand.tmp 18) 3)
      try simp only [decide_eq_true_eq, decide_eq_false_iff_not, beq_iff_eq, bne_iff_ne, beq_eq_false_iff_ne, bne_eq_false_iff_eq, ne_eq, Bool.not_eq_true', Bool.not_eq_false', Decidable.not_not] at h19
      refine TR_puresN 27 tys_of rfl (TR_done ?_)
      refine TA_nil ?_ (by decide +kernel)
      refine TC_true rfl ?_
      refine TC_seq ?_
      refine TC_region ?_
      refine TO_puresN 2 tys_of rfl (TO_nil ?_)
      refine TC_ret ?_
      repeat (first | refine TN_thenr ?_ | refine TN_blockr ?_)
      refine TN_rets tys_of none (.inl rfl) rfl (rs := [.tmp 4, .tmp 5]) rfl (vs := [_, _]) ⟨rfl, rfl, trivial⟩ rfl ((if_neg (fun hc => by have := hc.2.1; dsimp only at this; omega)).symm)
    · -- t19 False: (Op.binOp BinOp.geq 3 (Operand.tmp 13) (Operand.tmp 18) 3)
      try simp only [decide_eq_true_eq, decide_eq_false_iff_not, beq_iff_eq, bne_iff_ne, beq_eq_false_iff_ne, bne_eq_false_iff_eq, ne_eq, Bool.not_eq_true', Bool.not_eq_false', Decidable.not_not] at h19
      obtain ⟨i, rfl⟩ : ∃ m : Nat, x1 = (m : Int) := ⟨x1.toNat, by omega⟩
      have hi : i < τ.l.length := by omega
      have hgs := getS hi
      refine TR_puresN 5 tys_of rfl (TR_exact rfl (Ex_load tys_of rfl rfl rfl keep_find rfl) ?_)
      refine TR_puresN 1 tys_of rfl (TR_exact rfl (Ex_load tys_of rfl rfl rfl keep_find rfl) ?_)
      refine TR_puresN 0 tys_of rfl (TR_exact rfl (Ex_indexS (sz := 6) tys_of rfl rfl ha rfl rfl rfl (by omega)) ?_)
      refine TR_puresN 1 tys_of rfl (TR_exact rfl (Ex_load tys_of rfl rfl rfl keep_find (loadL_fld slotC_len rfl hi pre sp 1 (by decide) (v := .bool τ.l[i].used) rfl)) ?_)
      refine TR_puresN 0 tys_of rfl (TR_bool tys_of rfl rfl (fun h31 => ?_) (fun h31 => ?_))
      · -- t31 True: (Op.unOp UnOp.not 4 (Operand.tmp 30))
        try simp only [decide_eq_true_eq, decide_eq_false_iff_not, beq_iff_eq, bne_iff_ne, beq_eq_false_iff_ne, bne_eq_false_iff_eq, ne_eq, Bool.not_eq_true', Bool.not_eq_false', Decidable.not_not] at h31
        refine TR_puresN 15 tys_of rfl (TR_done ?_)
        refine TA_nil ?_ (by decide +kernel)
        refine TC_true rfl ?_
        refine TC_seq ?_
        refine TC_region ?_
        refine TO_puresN 2 tys_of rfl (TO_nil ?_)
        refine TC_ret ?_
        repeat (first | refine TN_thenr ?_ | refine TN_blockr ?_)
        refine TN_rets tys_of none (.inl rfl) rfl (rs := [.tmp 4, .tmp 5]) rfl (vs := [_, _]) ⟨rfl, rfl, trivial⟩ rfl ((if_neg (fun hc => by have := hc.2.2.1; simp only [Int.toNat_natCast, hgs] at this; rw [h31] at this; cases this)).symm)
      · -- t31 False: (Op.unOp UnOp.not 4 (Operand.tmp 30))
        try simp only [decide_eq_true_eq, decide_eq_false_iff_not, beq_iff_eq, bne_iff_ne, beq_eq_false_iff_ne, bne_eq_false_iff_eq, ne_eq, Bool.not_eq_true', Bool.not_eq_false', Decidable.not_not] at h31
        refine TR_puresN 5 tys_of rfl (TR_exact rfl (Ex_load tys_of rfl rfl rfl keep_find rfl) ?_)
        refine TR_puresN 1 tys_of rfl (TR_exact rfl (Ex_load tys_of rfl rfl rfl keep_find rfl) ?_)
        refine TR_puresN 0 tys_of rfl (TR_exact rfl (Ex_indexS (sz := 6) tys_of rfl rfl ha rfl rfl rfl (by omega)) ?_)
        refine TR_puresN 1 tys_of rfl (TR_exact rfl (Ex_load tys_of rfl rfl rfl keep_find (loadL_fld slotC_len rfl hi pre sp 0 (by decide) (v := iv τ.l[i].gen) rfl)) ?_)
        refine TR_puresN 1 tys_of rfl (TR_exact rfl (Ex_load tys_of rfl rfl rfl keep_find rfl) ?_)
        refine TR_puresN 0 tys_of rfl (TR_bool tys_of rfl rfl (fun h45 => ?_) (fun h45 => ?_))
        · -- t45 True: (Op.binOp BinOp.neq 3 (Operand.tmp 42) (Operand.tmp 44) 3)
          try simp only [decide_eq_true_eq, decide_eq_false_iff_not, beq_iff_eq, bne_iff_ne, beq_eq_false_iff_ne, bne_eq_false_iff_eq, ne_eq, Bool.not_eq_true', Bool.not_eq_false', Decidable.not_not] at h45
          refine TR_puresN 1 tys_of rfl (TR_done ?_)
          refine TA_nil ?_ (by decide +kernel)
          refine TC_true rfl ?_
          refine TC_seq ?_
          refine TC_region ?_
          refine TO_puresN 2 tys_of rfl (TO_nil ?_)
          refine TC_ret ?_
          repeat (first | refine TN_thenr ?_ | refine TN_blockr ?_)
          refine TN_rets tys_of none (.inl rfl) rfl (rs := [.tmp 4, .tmp 5]) rfl (vs := [_, _]) ⟨rfl, rfl, trivial⟩ rfl ((if_neg (fun hc => by have := hc.2.2.2; simp only [Int.toNat_natCast, hgs] at this; exact h45 this)).symm)
        · -- t45 False: (Op.binOp BinOp.neq 3 (Operand.tmp 42) (Operand.tmp 44) 3)
          try simp only [decide_eq_true_eq, decide_eq_false_iff_not, beq_iff_eq, bne_iff_ne, beq_eq_false_iff_ne, bne_eq_false_iff_eq, ne_eq, Bool.not_eq_true', Bool.not_eq_false', Decidable.not_not] at h45
          refine TR_puresN 1 tys_of rfl (TR_done ?_)
          refine TA_nil ?_ (by decide +kernel)
          refine TC_false rfl ?_
          refine TC_skip ?_
          refine TC_seq ?_
          refine TC_draw (by kernel_rfl) (sep [cel b3 T_api_Token [iv i, iv x2], cel p T_table_Table [s.val, .pointer (some ⟨q, 0, none⟩), iv τ.gone], cel g T_table_slot (pre ++ (τ.l.flatMap slotC ++ sp))]) 9 ?_
          refine TA_reads (fuel := 0) [0, 1, 2, 3, 4, 5, 6, 7, 8] rfl (fun _ _ _ h => h) (by decide +kernel) (by decide +kernel) (by decide +kernel) (by decide +kernel) ent_takes ?_
          refine TR_puresN 3 tys_of rfl (TR_exact rfl (Ex_load tys_of rfl rfl rfl keep_find rfl) ?_)
          refine TR_puresN 1 tys_of rfl (TR_exact rfl (Ex_load tys_of rfl rfl rfl keep_find rfl) ?_)
          refine TR_puresN 0 tys_of rfl (TR_exact rfl (Ex_indexS (sz := 6) tys_of rfl rfl ha rfl rfl rfl (by omega)) ?_)
          refine TR_puresN 2 tys_of rfl (TR_done ?_)
          refine TA_nil ?_ (by decide +kernel)
          refine TC_ret ?_
          repeat (first | refine TN_thenr ?_ | refine TN_blockr ?_)
          refine TN_rets tys_of (some i) (.inl rfl) rfl (rs := [.tmp 4, .tmp 5]) rfl (vs := [_, _]) ⟨rfl, rfl, trivial⟩ rfl (((if_pos ⟨by dsimp only; omega, by dsimp only; omega, by simp only [Int.toNat_natCast, hgs]; exact h31, by simp only [Int.toNat_natCast, hgs]; exact h45⟩ : findI τ ((i : Int), x2) = _)).symm)

def getT (τ : TableM) (x : Int × Int) : EntM × Int := match findI τ x with
  | some i => ((τ.l.getD i slot0).entry, 0)
  | none => (ent0, 8)
theorem tableGet_fn (S : Hp) (p : Nat) (τ : TableM) (x : Int × Int) : FNs S prog F_table_Table_Get #[.pointer (some ⟨p, 0, none⟩), tokV x] [Tbl p τ] (fun _ : Unit => .tuple #[entV (getT τ x).1, iv (getT τ x).2]) (fun _ => True) (fun _ => [Tbl p τ]) := by
  refine FNs_of_body func_table_Table_Get rfl ntmps_table_Table_Get rfl ?_
  intro R w0
  refine TN.unpack fun ⟨s, q⟩ hx => ?_
  obtain ⟨hok, hn⟩ := hx
  dsimp only at hn ⊢
  have hl1 := hok.l1
  refine TN.rowopen s (by omega) fun g pre sp ha hrow => ?_
  refine TC_seq ?_
  refine TC_region ?_
  refine TO_puresN 0 tys_of rfl (TO_cons (TOp_box rfl rfl rfl fun b3 => ?_))
  refine TN.same b3 (l' := [iv x.1, iv x.2]) rfl ?_
  refine TO_puresN 0 tys_of rfl (TO_cons (TOp_alloc tys_of rfl rfl rfl fun b4 => ?_))
  refine TO_puresN 1 tys_of rfl (TO_nil ?_)
  refine TC_seq ?_
  refine TC_region ?_
  refine TO_puresN 1 tys_of rfl (TO_cons (TOp_exact rfl (Ex_load tys_of rfl rfl rfl lies_find rfl) ?_))
  refine TO_puresN 0 tys_of rfl (TO_cons (TOp_calls rfl rfl cl_table_Table_find (find_fn _ p g q τ s pre sp ha hn x) fun y11 hy11 => ?_))
  refine TO_puresN 5 tys_of rfl (TO_nil ?_)
  refine TC_seq ?_
  refine TC_seq ?_
  refine TC_region ?_
  refine TO_puresN 1 tys_of rfl (TO_cons (TOp_bool tys_of rfl rfl (fun h15 => ?_) (fun h15 => ?_)))
  · -- t15 True: (Op.binOp BinOp.neq 40 (Operand.tmp 14) (Operand.const (Value.int IntKind.i64 0)) 40)
    try simp only [decide_eq_true_eq, decide_eq_false_iff_not, beq_iff_eq, bne_iff_ne, beq_eq_false_iff_ne, bne_eq_false_iff_eq, ne_eq, Bool.not_eq_true', Bool.not_eq_false', Decidable.not_not] at h15
    obtain rfl : y11 = none := by cases y11 with | none => rfl | some i => exact absurd rfl h15
    refine TO_puresN 0 tys_of rfl (TO_nil ?_)
    refine TC_true rfl ?_
    refine TC_seq ?_
    refine TC_region ?_
    refine TO_puresN 2 tys_of rfl (TO_cons (TOp_store tys_of rfl rfl rfl rfl rfl rfl rfl rfl ?_))
    refine TN.same b4 (l' := entC ent0) rfl ?_
    refine TO_puresN 1 tys_of rfl (TO_nil ?_)
    refine TC_ret ?_
    repeat (first | refine TN_thenr ?_ | refine TN_blockr ?_)
    refine TN.rowclose hrow ?_
    refine TN.fold (Tbl p τ) (ent_pack (s, q) ⟨hok, hn⟩) ?_
    refine TN_rets tys_of () (.inl rfl) rfl (rs := [.cell 4 98, .tmp 5]) rfl (vs := [_, _]) ⟨⟨_, _, _, _, _, _, rfl, rfl, lies_find, rfl⟩, rfl, trivial⟩ (by rw [show getT τ x = (ent0, 8) by unfold getT; rw [← hy11]]; rfl) trivial
  · -- t15 False: (Op.binOp BinOp.neq 40 (Operand.tmp 14) (Operand.const (Value.int IntKind.i64 0)) 40)
    try simp only [decide_eq_true_eq, decide_eq_false_iff_not, beq_iff_eq, bne_iff_ne, beq_eq_false_iff_ne, bne_eq_false_iff_eq, ne_eq, Bool.not_eq_true', Bool.not_eq_false', Decidable.not_not] at h15
    obtain ⟨i, rfl⟩ : ∃ i, y11 = some i := by cases y11 with | none => simp [optE] at h15 | some i => exact ⟨i, rfl⟩
    obtain ⟨hi, -, -, -⟩ := findI_some hy11.symm
    refine TO_puresN 0 tys_of rfl (TO_nil ?_)
    refine TC_false rfl ?_
    refine TC_skip ?_
    refine TC_seq ?_
    refine TC_region ?_
    refine TO_puresN 3 tys_of rfl (TO_cons (TOp_exact rfl (Ex_load tys_of rfl rfl rfl lies_find (loadL_sub slotC_len rfl hi pre sp 2 (Nat.le_of_ble_eq_true rfl))) ?_))
    refine TO_puresN 0 tys_of rfl (TO_cons (TOp_store tys_of rfl rfl rfl rfl rfl rfl rfl rfl ?_))
    refine TN.same b4 (l' := entC τ.l[i].entry) rfl ?_
    refine TO_puresN 1 tys_of rfl (TO_nil ?_)
    refine TC_ret ?_
    repeat (first | refine TN_thenr ?_ | refine TN_blockr ?_)
    refine TN.rowclose hrow ?_
    refine TN.fold (Tbl p τ) (ent_pack (s, q) ⟨hok, hn⟩) ?_
    refine TN_rets tys_of () (.inl rfl) rfl (rs := [.cell 4 98, .tmp 5]) rfl (vs := [_, _]) ⟨⟨_, _, _, _, _, _, rfl, rfl, lies_find, rfl⟩, rfl, trivial⟩ (by rw [show getT τ x = (τ.l[i].entry, 0) by unfold getT; rw [← hy11, ← getS hi]]; rfl) trivial

def setE (τ : TableM) (i : Nat) (e : EntM) : TableM := { τ with l := τ.l.set i ⟨(τ.l.getD i slot0).gen, (τ.l.getD i slot0).used, e⟩ }
def setT (τ : TableM) (x : Int × Int) (e : EntM) : TableM := match findI τ x with
  | some i => setE τ i e
  | none => τ
def findE (τ : TableM) (x : Int × Int) : Int := optE 8 (findI τ x)
def atT (τ : TableM) (x : Int) : (Int × Int) × Bool := if 0 ≤ x ∧ x < τ.l.length ∧ (τ.l.getD x.toNat slot0).used = true then ((x, (τ.l.getD x.toNat slot0).gen), true) else ((0, 0), false)
end Go.Sl.Tz

/-
  Package cell: what it owns; New, Define, Open.
-/
namespace Go.Sl.Tz
open Go Go.Proofs Go.Sl
set_option maxRecDepth 100000

/-! ### What a remset has -/
abbrev RefM := Int × Int
abbrev refV (r : RefM) : Value := .agg #[iv r.1, iv r.2]
structure RemW where
  a : Nat
  b : Nat
  c : Nat
  of_ : List (Int × Nat × List RefM)
  from_ : List (Int × Nat × List RefM)
/-- References by a number: each number's just those that have it. -/
structure IdxOK (ρ : List (RefM × Int)) (key : RefM × Int → Int) (l : List (Int × Nat × List RefM)) : Prop where
  nodup : (l.map (·.1)).Nodup
  has : ∀ x ∈ l, x.2.2 ≠ [] ∧ x.2.2.Perm ((ρ.filter (fun y => key y == x.1)).map (·.1))
  all : ∀ y ∈ ρ, key y ∈ l.map (·.1)
structure RemOK (ρ : List (RefM × Int)) (w : RemW) : Prop where
  nodup : (ρ.map (·.1)).Nodup
  of_ : IdxOK ρ (·.2) w.of_
  from_ : IdxOK ρ (·.1.1) w.from_
def remKV (ρ : List (RefM × Int)) : List (RefM × Value) := ρ.map fun y => (y.1, iv y.2)
def idxKV (l : List (Int × Nat × List RefM)) : List (Int × Value) := l.map fun x => (x.1, mv x.2.1)
abbrev idxR (x : Int × Nat × List RefM) : List HProp := [MapOf refV x.2.1 (x.2.2.map fun r => (r, iv 1))]
def Rem (p : Nat) (ρ : List (RefM × Int)) : HProp := Pack (fun w : RemW => RemOK ρ w)
  (fun w => [cel p T_remset_Set [mv w.a, mv w.b, mv w.c], MapOf refV w.a (remKV ρ), MapOf iv w.b (idxKV w.of_), MapOf iv w.c (idxKV w.from_), big idxR w.of_, big idxR w.from_])
theorem remNew_fn (S : Hp) : FNs S prog F_remset_New #[] [] (fun p : Nat => pv p) (fun _ => True) (fun p => [Rem p []]) := by
  refine FNs_of_body func_remset_New rfl ntmps_remset_New rfl (fun R w0 => TM_start ?_)
  refine TM_ops 7 tys_of rfl (TOp_makeMap rfl rfl refV fun r1 => ?_)
  refine TM_ops 0 tys_of rfl (TOp_makeMap rfl rfl iv fun r2 => ?_)
  refine TM_ops 0 tys_of rfl (TOp_makeMap rfl rfl iv fun r3 => ?_)
  refine TM_ops 1 tys_of rfl (TOp_box rfl rfl rfl fun b5 => ?_)
  refine TM_run 4 tys_of rfl ?_
  refine TN.bignil idxR ?_
  refine TN.bignil idxR ?_
  refine TN.as b5 (cel b5 T_remset_Set [mv (RemW.mk r1 r2 r3 [] []).a, mv (RemW.mk r1 r2 r3 [] []).b, mv (RemW.mk r1 r2 r3 [] []).c]) rfl ?_
  refine TN.re (MapOf refV r1 []) (MapOf refV (RemW.mk r1 r2 r3 [] []).a (remKV [])) rfl ?_
  refine TN.re (MapOf iv r2 []) (MapOf iv (RemW.mk r1 r2 r3 [] []).b (idxKV (RemW.mk r1 r2 r3 [] []).of_)) rfl ?_
  refine TN.re (MapOf iv r3 []) (MapOf iv (RemW.mk r1 r2 r3 [] []).c (idxKV (RemW.mk r1 r2 r3 [] []).from_)) rfl ?_
  refine TN.shut (Rem b5 []) rfl ⟨r1, r2, r3, [], []⟩ ⟨.nil, ⟨.nil, nofun, nofun⟩, ⟨.nil, nofun, nofun⟩⟩ ?_
  refine TN_rets tys_of b5 (.inl rfl) rfl (rs := [.tmp 0]) rfl (vs := [_]) ⟨rfl, trivial⟩ rfl trivial

/-! ### What Cells have -/
structure CellP where
  st : Nat
  bk : Nat
  im : Nat
  tb : Nat
  tr : Nat
  rm : Nat
  spm : Nat
  mim : Nat
  spf : Int → Nat
  mif : Int → Nat
structure CellM where
  st : StoreM
  bk : List Lay
  tb : TableM
  tr : TreeM
  rem : List (RefM × Int)
  sp : List (Int × SpaceM)
  mi : List (Int × List Int)
def cellC (P : CellP) : List Value := [pv P.st, pv P.bk, pv P.im, pv P.tb, pv P.tr, pv P.rm, mv P.spm, mv P.mim]
def spKV (f : Int → Nat) (l : List (Int × SpaceM)) : List (Int × Value) := l.map fun x => (x.1, pv (f x.1))
def miKV (f : Int → Nat) (l : List (Int × List Int)) : List (Int × Value) := l.map fun x => (x.1, pv (f x.1))
abbrev spR (st : Nat) (f : Int → Nat) (x : Int × SpaceM) : List HProp := [Space (f x.1) st x.2]
abbrev miR (f : Int → Nat) (x : Int × List Int) : List HProp := [Bag (f x.1) x.2]
def Cells (c : Nat) (P : CellP) (κ : CellM) : HProp := Pack (fun _ : Unit => True) fun _ =>
  [cel c T_cell_Cells (cellC P), Store P.st κ.st, Book P.bk κ.bk, Img P.im P.st P.bk, Tbl P.tb κ.tb, Tree P.tr κ.tr, Rem P.rm κ.rem, MapOf iv P.spm (spKV P.spf κ.sp), MapOf iv P.mim (miKV P.mif κ.mi), big (spR P.st P.spf) κ.sp, big (miR P.mif) κ.mi]
def cell0 (ch w sl : Int) : CellM := ⟨store0 ch w, [], table0 sl.toNat, ⟨[], 0⟩, [], [], []⟩
def newOK (ch w sl : Int) : Prop := validS ch w ∧ 1 ≤ sl ∧ sl ≤ 4096
def optC (o : Option (Nat × CellP)) : Option Nat := o.map (·.1)
theorem cellNew_fn (S : Hp) (ch w sl : Int) : FNs S prog F_cell_New #[iv ch, iv w, iv sl] [] (fun o : Option (Nat × CellP) => .tuple #[optP (optC o), iv (optE 3 (optC o))]) (fun o => o.isSome = true ↔ newOK ch w sl)
    (fun o => match o with | none => [] | some (c, P) => [Cells c P (cell0 ch w sl)]) := by
  refine FNs_of_body func_cell_New rfl ntmps_cell_New rfl (fun R w0 => TM_start ?_)
  refine TM_ops 10 tys_of rfl (TOp_calls rfl rfl cl_store_New (storeNew_fn _ _ _) fun y17 h17 => ?_)
  rcases y17 with _ | p17 <;> simp only [optE, optP, Option.isSome_none, Option.isSome_some, Option.map_none, Option.map_some, Bool.false_eq_true, ↓reduceIte, true_iff, false_iff] at h17 ⊢
  · refine TM_run 24 tys_of rfl ?_
    refine TN_rets tys_of none (.inl rfl) rfl (rs := [.tmp 6, .tmp 7]) rfl (vs := [_, _]) ⟨rfl, rfl, trivial⟩ rfl ⟨nofun, fun h => absurd h.1 h17⟩
  · refine TM_ops 20 tys_of rfl (TOp_calls rfl rfl cl_table_New (tableNew_fn _ _) fun y25 h25 => ?_)
    rcases y25 with _ | p25 <;> simp only [optE, optP, Option.isSome_none, Option.isSome_some, Option.map_none, Option.map_some, Bool.false_eq_true, ↓reduceIte, true_iff, false_iff] at h25 ⊢
    · refine TM_run 24 tys_of rfl ?_
      refine TN_rets tys_of none (.inl rfl) rfl (rs := [.tmp 6, .tmp 7]) rfl (vs := [_, _]) ⟨rfl, rfl, trivial⟩ rfl ⟨nofun, fun h => absurd h.2 h25⟩
    · refine TM_ops 19 tys_of rfl (TOp_calls rfl rfl cl_layout_NewBook (newBook_fn _) fun y31 h31 => ?_)
      refine TM_ops 7 tys_of rfl (TOp_calls rfl rfl cl_image_New (imageNew_fn _ _ _) fun y35 h35 => ?_)
      refine TM_ops 13 tys_of rfl (TOp_calls rfl rfl cl_tree_New (treeNew_fn _) fun y42 h42 => ?_)
      refine TM_ops 0 tys_of rfl (TOp_calls rfl rfl cl_remset_New (remNew_fn _) fun y43 h43 => ?_)
      refine TM_ops 0 tys_of rfl (TOp_makeMap rfl rfl iv fun r44 => ?_)
      refine TM_ops 0 tys_of rfl (TOp_makeMap rfl rfl iv fun r45 => ?_)
      refine TM_ops 1 tys_of rfl (TOp_box rfl rfl rfl fun b47 => ?_)
      refine TM_run 5 tys_of rfl ?_
      refine TN.bignil (spR p17 fun _ => 0) ?_
      refine TN.bignil (miR fun _ => 0) ?_
      refine TN.as b47 (cel b47 T_cell_Cells (cellC (CellP.mk p17 y31 y35 p25 y42 y43 r44 r45 (fun x => 0) fun x => 0))) rfl ?_
      refine TN.re (Store p17 (store0 ch w)) (Store (CellP.mk p17 y31 y35 p25 y42 y43 r44 r45 (fun x => 0) fun x => 0).st (cell0 ch w sl).st) rfl ?_
      refine TN.re (Book y31 []) (Book (CellP.mk p17 y31 y35 p25 y42 y43 r44 r45 (fun x => 0) fun x => 0).bk (cell0 ch w sl).bk) rfl ?_
      refine TN.re (Tbl p25 (table0 sl.toNat)) (Tbl (CellP.mk p17 y31 y35 p25 y42 y43 r44 r45 (fun x => 0) fun x => 0).tb (cell0 ch w sl).tb) rfl ?_
      refine TN.re (Tree y42 (TreeM.mk [] 0)) (Tree (CellP.mk p17 y31 y35 p25 y42 y43 r44 r45 (fun x => 0) fun x => 0).tr (cell0 ch w sl).tr) rfl ?_
      refine TN.re (Rem y43 []) (Rem (CellP.mk p17 y31 y35 p25 y42 y43 r44 r45 (fun x => 0) fun x => 0).rm (cell0 ch w sl).rem) rfl ?_
      refine TN.re (MapOf iv r44 []) (MapOf iv (CellP.mk p17 y31 y35 p25 y42 y43 r44 r45 (fun x => 0) fun x => 0).spm (spKV (CellP.mk p17 y31 y35 p25 y42 y43 r44 r45 (fun x => 0) fun x => 0).spf (cell0 ch w sl).sp)) rfl ?_
      refine TN.re (MapOf iv r45 []) (MapOf iv (CellP.mk p17 y31 y35 p25 y42 y43 r44 r45 (fun x => 0) fun x => 0).mim (miKV (CellP.mk p17 y31 y35 p25 y42 y43 r44 r45 (fun x => 0) fun x => 0).mif (cell0 ch w sl).mi)) rfl ?_
      refine TN.re (big (miR fun x => 0) []) (big (spR (CellP.mk p17 y31 y35 p25 y42 y43 r44 r45 (fun x => 0) fun x => 0).st (CellP.mk p17 y31 y35 p25 y42 y43 r44 r45 (fun x => 0) fun x => 0).spf) (cell0 ch w sl).sp) rfl ?_
      refine TN.re (big (spR p17 fun x => 0) []) (big (miR (CellP.mk p17 y31 y35 p25 y42 y43 r44 r45 (fun x => 0) fun x => 0).mif) (cell0 ch w sl).mi) rfl ?_
      refine TN.shut (Cells b47 ⟨p17, y31, y35, p25, y42, y43, r44, r45, fun _ => 0, fun _ => 0⟩ (cell0 ch w sl)) rfl () trivial ?_
      refine TN_rets tys_of (some (b47, ⟨p17, y31, y35, p25, y42, y43, r44, r45, fun _ => 0, fun _ => 0⟩)) (.inl rfl) rfl (rs := [.tmp 6, .tmp 7]) rfl (vs := [_, _]) ⟨rfl, rfl, trivial⟩ rfl ⟨fun _ => ⟨h17, h25⟩, fun _ => rfl⟩
end Go.Sl.Tz

/-
  Package cell: Define, Open.
-/
namespace Go.Sl.Tz
open Go Go.Proofs Go.Sl
set_option maxRecDepth 100000

def defineR (κ : CellM) (ws : List Nat) : Int × Int := if (decR ws).2 ≠ 0 then (0, (decR ws).2) else addR κ.bk (decR ws).1
def defineS (κ : CellM) (ws : List Nat) : CellM := if (decR ws).2 ≠ 0 then κ else { κ with bk := addL κ.bk (decR ws).1 }
theorem decR_b (ws : List Nat) : LayB (decR ws).1 := by
  unfold decR
  split
  · split
    · exact rawL_b _ _ _
    · exact ⟨by decide, by decide⟩
  · exact ⟨by decide, by decide⟩
theorem define_fn (S : Hp) (hS : Tab S) (c : Nat) (P : CellP) (κ : CellM) (s : Slc) (ws : List Nat) (hw : ∀ x ∈ ws, x < 2 ^ 64) : FNs S prog F_cell_Cells_Define #[pv c, s.val] [Cells c P κ, Row s T_uint64 1 (ws.map uv)]
    (fun _ : Unit => .tuple #[iv (defineR κ ws).1, iv (defineR κ ws).2]) (fun _ => True) (fun _ => [Cells c P (defineS κ ws), Row s T_uint64 1 (ws.map uv)]) := by
  refine FNs_of_body func_cell_Cells_Define rfl ntmps_cell_Cells_Define rfl (fun R w0 => TM_start ?_)
  refine TN.open (Cells c P κ) rfl fun _ _ => ?_
  refine TM_ops 19 tys_of rfl (TOp_calls rfl rfl cl_layout_Decode (decode_fn _ (by assumption) _ ws (by assumption)) fun y12 h12 => ?_)
  refine TM_ops 3 tys_of rfl (TOp_alloc tys_of rfl rfl rfl fun b6 => ?_)
  refine TM_ops 0 tys_of rfl (TOp_store tys_of rfl rfl rfl rfl rfl rfl rfl rfl ?_)
  refine TM_run 10 tys_of rfl ?_
  refine TM_ne (t := 16) rfl (fun h16 => ?_) (fun h16 => ?_)
  · refine TM_run 10 tys_of rfl ?_
    rw [show defineR κ ws = (0, (decR ws).2) from if_pos h16, show defineS κ ws = κ from if_pos h16]
    refine TN.shut (Cells c P κ) rfl () trivial ?_
    refine TN_rets tys_of () (.inl rfl) rfl (rs := [.tmp 4, .tmp 5]) rfl (vs := [_, _]) ⟨rfl, rfl, trivial⟩ rfl trivial
  · refine TM_run 4 tys_of rfl ?_
    refine TM_draw (by kernel_rfl) (sep [cel b6 111 (setAll (cellsL y111.zero) 0 (cellsL (layV (decR ws).fst y12.fst y12.snd))), cel c T_cell_Cells (cellC P)]) 10 ?_
    refine TA_reads (fuel := 5) [0, 1, 2, 3, 4] rfl (fun _ _ _ h => h) (by decide +kernel) (by decide +kernel) (by decide +kernel) (by decide +kernel) ent_takes ?_
    refine TR_puresN 3 tys_of rfl (TR_exact rfl (Ex_load tys_of rfl rfl rfl keep_find rfl) ?_)
    refine TR_puresN 0 tys_of rfl (TR_exact rfl (Ex_load tys_of rfl rfl rfl keep_find rfl) ?_)
    refine TR_puresN 0 tys_of rfl (TR_done ?_)
    refine TA_one (fuel := 4) 5 (by decide +kernel) (TOp_calls rfl rfl cl_layout_Book_Add (bookAdd_fn _ _ κ.bk _ (by exact decR_b _) _ _) fun y23 h23 => ?_)
    refine TB_low ent_takes ?_
    refine TA_frees (fuel := 0) [6, 7, 8, 9] rfl (fun _ _ _ h => h) (by decide +kernel) ?_
    refine TR_puresN 4 tys_of rfl (TR_done ?_)
    refine TM_drawn ?_ (by decide +kernel)
    refine TM_run 2 tys_of rfl ?_
    rw [show defineR κ ws = addR κ.bk (decR ws).1 from if_neg (by simpa using h16), show defineS κ ws = { κ with bk := addL κ.bk (decR ws).1 } from if_neg (by simpa using h16)]
    refine TN.shut (Cells c P { κ with bk := addL κ.bk (decR ws).1 }) rfl () trivial ?_
    refine TN_rets tys_of () (.inl rfl) rfl (rs := [.tmp 4, .tmp 5]) rfl (vs := [_, _]) ⟨rfl, rfl, trivial⟩ rfl trivial
/-- A pointer more. -/
def upd (f : Int → Nat) (k : Int) (p : Nat) : Int → Nat := fun i => if i = k then p else f i
theorem upd_same (f : Int → Nat) (k : Int) (p : Nat) : upd f k p k = p := if_pos rfl
theorem upd_ne (f : Int → Nat) {k i : Int} (p : Nat) (h : i ≠ k) : upd f k p i = f i := if_neg h
theorem findK_none {κ : Type} [DecidableEq κ] {k : κ} : ∀ {kv : List (κ × Value)} {n : Nat}, (∀ x ∈ kv, x.1 ≠ k) → findK kv k n = none
  | [], _, _ => rfl
  | x :: r, n, h => by
    unfold findK
    rw [if_neg (h x (.head _))]
    exact findK_none fun y hy => h y (.tail _ hy)
theorem putK_fresh {κ : Type} [DecidableEq κ] {kv : List (κ × Value)} {k : κ} (h : ∀ x ∈ kv, x.1 ≠ k) (v : Value) : putK kv k v = kv ++ [(k, v)] := by
  unfold putK; rw [findK_none h]
theorem spKV_push {f : Int → Nat} {l : List (Int × SpaceM)} {k : Int} (h : ∀ x ∈ l, x.1 ≠ k) (p : Nat) (m : SpaceM) : putK (spKV f l) k (pv p) = spKV (upd f k p) (l ++ [(k, m)]) := by
  rw [putK_fresh (fun x hx => by
    obtain ⟨y, hy, rfl⟩ := List.mem_map.1 hx
    exact h y hy)]
  unfold spKV
  rw [List.map_append]
  congr 1
  · exact List.map_congr_left fun x hx => by rw [upd_ne f p (h x hx)]
  · simp [upd_same]
theorem miKV_push {f : Int → Nat} {l : List (Int × List Int)} {k : Int} (h : ∀ x ∈ l, x.1 ≠ k) (p : Nat) (m : List Int) : putK (miKV f l) k (pv p) = miKV (upd f k p) (l ++ [(k, m)]) := by
  rw [putK_fresh (fun x hx => by
    obtain ⟨y, hy, rfl⟩ := List.mem_map.1 hx
    exact h y hy)]
  unfold miKV
  rw [List.map_append]
  congr 1
  · exact List.map_congr_left fun x hx => by rw [upd_ne f p (h x hx)]
  · simp [upd_same]
theorem big_congr {α : Type} {f g : α → List HProp} {l : List α} (h : ∀ x ∈ l, f x = g x) : big f l = big g l := by
  unfold big
  congr 1
  induction l with
  | nil => rfl
  | cons a r ih => rw [List.flatMap_cons, List.flatMap_cons, h a (.head _), ih fun x hx => h x (.tail _ hx)]
theorem spR_upd {st : Nat} {f : Int → Nat} {l : List (Int × SpaceM)} {k : Int} (h : ∀ x ∈ l, x.1 ≠ k) (p : Nat) : big (spR st f) l = big (spR st (upd f k p)) l :=
  big_congr fun x hx => by unfold spR; rw [upd_ne f p (h x hx)]
theorem miR_upd {f : Int → Nat} {l : List (Int × List Int)} {k : Int} (h : ∀ x ∈ l, x.1 ≠ k) (p : Nat) : big (miR f) l = big (miR (upd f k p)) l :=
  big_congr fun x hx => by unfold miR; rw [upd_ne f p (h x hx)]

def openR (κ : CellM) (parent : Int) : Int × Int := if (treeAddR κ.tr parent).2 ≠ 0 then (0, (treeAddR κ.tr parent).2) else ((treeAddR κ.tr parent).1, 0)
def openS (κ : CellM) (parent : Int) : CellM := if (treeAddR κ.tr parent).2 ≠ 0 then { κ with tr := treeAdd κ.tr parent }
  else { κ with tr := treeAdd κ.tr parent, sp := κ.sp ++ [((treeAddR κ.tr parent).1, space0 (treeAddR κ.tr parent).1)], mi := κ.mi ++ [((treeAddR κ.tr parent).1, [])] }
structure OpenPre (κ : CellM) : Prop where
  lo : 0 ≤ κ.tr.last
  hi : κ.tr.last < 2 ^ 62
  sp : ∀ x ∈ κ.sp, x.1 ≠ κ.tr.last + 1
  mi : ∀ x ∈ κ.mi, x.1 ≠ κ.tr.last + 1
theorem treeAddR_id {τ : TreeM} {parent : Int} (h : (treeAddR τ parent).2 = 0) : (treeAddR τ parent).1 = τ.last + 1 := by
  unfold treeAddR at *
  split at h
  · cases h
  · split at h
    · cases h
    · rename_i h1 h2; rw [if_neg h1, if_neg h2]
theorem open_fn (S : Hp) (c : Nat) (P : CellP) (κ : CellM) (hp : OpenPre κ) (parent : Int) : FNs S prog F_cell_Cells_Open #[pv c, iv parent] [Cells c P κ]
    (fun _ : CellP => .tuple #[iv (openR κ parent).1, iv (openR κ parent).2]) (fun _ => True) (fun P' => [Cells c P' (openS κ parent)]) := by
  refine FNs_of_body func_cell_Cells_Open rfl ntmps_cell_Cells_Open rfl (fun R w0 => TM_start ?_)
  refine TN.open (Cells c P κ) rfl fun _ _ => ?_
  refine TM_ops 21 tys_of rfl (TOp_exact rfl (Ex_load tys_of rfl rfl rfl lies_find rfl) ?_)
  refine TM_ops 1 tys_of rfl (TOp_calls rfl rfl cl_tree_Tree_Add (treeAdd_fn _ _ κ.tr (by exact hp.hi) _) fun y16 h16 => ?_)
  refine TM_run 14 tys_of rfl ?_
  refine TM_ne (t := 20) rfl (fun h20 => ?_) (fun h20 => ?_)
  · refine TM_run 10 tys_of rfl ?_
    rw [show openR κ parent = (0, (treeAddR κ.tr parent).2) from if_pos h20, show openS κ parent = { κ with tr := treeAdd κ.tr parent } from if_pos h20]
    refine TN.shut (Cells c P { κ with tr := treeAdd κ.tr parent }) rfl () trivial ?_
    refine TN_rets tys_of P (.inl rfl) rfl (rs := [.tmp 4, .tmp 5]) rfl (vs := [_, _]) ⟨rfl, rfl, trivial⟩ rfl trivial
  · have hid := treeAddR_id h20
    have hlo := hp.lo
    refine TM_run 4 tys_of rfl ?_
    refine TM_draw (by kernel_rfl) (sep [cel c T_cell_Cells (cellC P)]) 15 ?_
    refine TA_reads (fuel := 5) [0, 1, 2, 3, 4, 5, 6, 7, 8, 9] rfl (fun _ _ _ h => h) (by decide +kernel) (by decide +kernel) (by decide +kernel) (by decide +kernel) ent_takes ?_
    refine TR_puresN 3 tys_of rfl (TR_exact rfl (Ex_load tys_of rfl rfl rfl keep_find rfl) ?_)
    refine TR_puresN 4 tys_of rfl (TR_exact rfl (Ex_load tys_of rfl rfl rfl keep_find rfl) ?_)
    refine TR_puresN 1 tys_of rfl (TR_done ?_)
    refine TA_one (fuel := 4) 10 (by decide +kernel) (TOp_calls rfl rfl cl_bump_New (bumpNew_fn _ _ _) fun y33 h33 => ?_)
    obtain ⟨p33, rfl⟩ := Option.isSome_iff_exists.1 (h33.2 (by omega))
    simp only [optE, optP, Option.isSome_some, Option.map_some, ↓reduceIte] at h33 ⊢
    refine TB_low ent_takes ?_
    refine TA_frees (fuel := 1) [11, 12, 13] rfl (fun _ _ _ h => h) (by decide +kernel) ?_
    refine TR_puresN 3 tys_of rfl (TR_done ?_)
    refine TA_one (fuel := 0) 14 (by decide +kernel) (TOp_mapUpdate tys_of rfl (.inl rfl) rfl iv rfl rfl rfl kI ?_)
    refine TB_low ent_takes ?_
    refine TM_drawn ?_ (by decide +kernel)
    refine TM_run 2 tys_of rfl ?_
    refine TM_draw (by kernel_rfl) (sep [cel c T_cell_Cells (cellC P)]) 7 ?_
    refine TA_reads (fuel := 2) [0, 1, 2, 3, 4] rfl (fun _ _ _ h => h) (by decide +kernel) (by decide +kernel) (by decide +kernel) (by decide +kernel) ent_takes ?_
    refine TR_puresN 3 tys_of rfl (TR_exact rfl (Ex_load tys_of rfl rfl rfl keep_find rfl) ?_)
    refine TR_puresN 1 tys_of rfl (TR_done ?_)
    refine TA_one (fuel := 1) 5 (by decide +kernel) (TOp_calls rfl rfl cl_bag_New_int (bagNew_fn _) fun y41 h41 => ?_)
    refine TB_low ent_takes ?_
    refine TA_one (fuel := 0) 6 (by decide +kernel) (TOp_mapUpdate tys_of rfl (.inl rfl) rfl iv rfl rfl rfl kI ?_)
    refine TB_low ent_takes ?_
    refine TM_drawn ?_ (by decide +kernel)
    refine TM_run 9 tys_of rfl ?_
    rw [show openR κ parent = ((treeAddR κ.tr parent).1, 0) from if_neg (by simpa using h20), show openS κ parent = { κ with tr := treeAdd κ.tr parent, sp := κ.sp ++ [((treeAddR κ.tr parent).1, space0 (treeAddR κ.tr parent).1)], mi := κ.mi ++ [((treeAddR κ.tr parent).1, [])] } from if_neg (by simpa using h20)]
    have hs1 : ∀ x ∈ κ.sp, x.1 ≠ (treeAddR κ.tr parent).1 := by rw [hid]; exact hp.sp
    have hs2 : ∀ x ∈ κ.mi, x.1 ≠ (treeAddR κ.tr parent).1 := by rw [hid]; exact hp.mi
    rw [spKV_push hs1 p33 (space0 (treeAddR κ.tr parent).1), miKV_push hs2 y41 [], spR_upd hs1 p33, miR_upd hs2 y41]
    refine TN.re (Space p33 P.st (space0 (treeAddR κ.tr parent).1)) (Space (upd P.spf (treeAddR κ.tr parent).1 p33 (treeAddR κ.tr parent).1) P.st (space0 (treeAddR κ.tr parent).1)) (by rw [upd_same]) ?_
    refine TN.re (Bag y41 []) (Bag (upd P.mif (treeAddR κ.tr parent).1 y41 (treeAddR κ.tr parent).1) []) (by rw [upd_same]) ?_
    refine TN.bigpush (spR P.st (upd P.spf (treeAddR κ.tr parent).1 p33)) κ.sp ((treeAddR κ.tr parent).1, space0 (treeAddR κ.tr parent).1) ?_
    refine TN.bigpush (miR (upd P.mif (treeAddR κ.tr parent).1 y41)) κ.mi ((treeAddR κ.tr parent).1, []) ?_
    refine TN.as c (cel c T_cell_Cells (cellC (CellP.mk P.st P.bk P.im P.tb P.tr P.rm P.spm P.mim (upd P.spf (treeAddR κ.tr parent).fst p33) (upd P.mif (treeAddR κ.tr parent).fst y41)))) rfl ?_
    refine TN.shut (Cells c { P with spf := upd P.spf (treeAddR κ.tr parent).1 p33, mif := upd P.mif (treeAddR κ.tr parent).1 y41 } { κ with tr := treeAdd κ.tr parent, sp := κ.sp ++ [((treeAddR κ.tr parent).1, space0 (treeAddR κ.tr parent).1)], mi := κ.mi ++ [((treeAddR κ.tr parent).1, [])] }) rfl () trivial ?_
    refine TN_rets tys_of ({ P with spf := upd P.spf (treeAddR κ.tr parent).1 p33, mif := upd P.mif (treeAddR κ.tr parent).1 y41 }) (.inl rfl) rfl (rs := [.tmp 4, .tmp 5]) rfl (vs := [_, _]) ⟨rfl, rfl, trivial⟩ rfl trivial
end Go.Sl.Tz

/-
  Lists by keys: what a key has, another thing in its place, all but it; such things owned one by one.
-/
namespace Go.Sl
open Go
section
variable {κ : Type} [DecidableEq κ] {α : Type}

def getA : List (κ × α) → κ → Option α
  | [], _ => none
  | x :: r, k => if x.1 = k then some x.2 else getA r k
def setA (l : List (κ × α)) (k : κ) (a : α) : List (κ × α) := l.map fun x => if x.1 = k then (k, a) else x
def delA (l : List (κ × α)) (k : κ) : List (κ × α) := l.filter fun x => decide (x.1 ≠ k)
def keysA (l : List (κ × α)) : List κ := l.map (·.1)
theorem getA_none {l : List (κ × α)} {k : κ} : getA l k = none ↔ k ∉ keysA l := by
  induction l with
  | nil => simp [getA, keysA]
  | cons x r ih =>
    unfold getA
    by_cases h : x.1 = k
    · simp [h, keysA]
    · rw [if_neg h, ih]; simp [keysA, Ne.symm h]
theorem getA_some {l : List (κ × α)} {k : κ} (h : k ∈ keysA l) : ∃ a, getA l k = some a := by
  cases e : getA l k with
  | none => exact absurd h (getA_none.1 e)
  | some a => exact ⟨a, rfl⟩
theorem getA_mem {l : List (κ × α)} {k : κ} {a : α} (h : getA l k = some a) : (k, a) ∈ l := by
  induction l with
  | nil => cases h
  | cons x r ih =>
    unfold getA at h
    by_cases hx : x.1 = k
    · rw [if_pos hx] at h; cases h; subst hx; exact .head _
    · rw [if_neg hx] at h; exact .tail _ (ih h)
theorem keysA_set (l : List (κ × α)) (k : κ) (a : α) : keysA (setA l k a) = keysA l := by
  unfold keysA setA
  rw [List.map_map]
  exact List.map_congr_left fun x _ => by
    show (if x.1 = k then (k, a) else x).1 = x.1
    split
    · rename_i h; exact h.symm
    · rfl
theorem getA_set_same {l : List (κ × α)} {k : κ} (h : k ∈ keysA l) (a : α) : getA (setA l k a) k = some a := by
  induction l with
  | nil => cases h
  | cons x r ih =>
    show getA ((if x.1 = k then (k, a) else x) :: setA r k a) k = _
    by_cases hx : x.1 = k
    · rw [if_pos hx]; unfold getA; rw [if_pos rfl]
    · rw [if_neg hx]; unfold getA; rw [if_neg hx]
      refine ih ?_
      rcases List.mem_cons.1 h with h' | h'
      · exact absurd h'.symm hx
      · exact h'
theorem delA_none {l : List (κ × α)} {k : κ} (h : k ∉ keysA l) : delA l k = l := List.filter_eq_self.2 fun x hx => by
  simp only [decide_eq_true_eq]
  intro e
  exact h (List.mem_map.2 ⟨x, hx, e⟩)
theorem perm_get_del {l : List (κ × α)} (hn : (keysA l).Nodup) {k : κ} {a : α} (h : getA l k = some a) : l.Perm ((k, a) :: delA l k) := by
  induction l with
  | nil => cases h
  | cons x r ih =>
    have hn' := List.nodup_cons.1 hn
    unfold getA at h
    by_cases hx : x.1 = k
    · rw [if_pos hx] at h
      cases h
      have e : delA (x :: r) k = r := by
        unfold delA
        rw [List.filter_cons_of_neg (by simp [hx])]
        exact delA_none (by rw [← hx]; exact hn'.1)
      rw [e, ← hx]
    · rw [if_neg hx] at h
      have e : delA (x :: r) k = x :: delA r k := by
        unfold delA
        rw [List.filter_cons_of_pos (by simp [hx])]
      rw [e]
      exact ((ih hn'.2 h).cons x).trans (List.Perm.swap _ _ _)
theorem delA_set (l : List (κ × α)) (k : κ) (a : α) : delA (setA l k a) k = delA l k := by
  induction l with
  | nil => rfl
  | cons x r ih =>
    show delA ((if x.1 = k then (k, a) else x) :: setA r k a) k = _
    unfold delA at ih ⊢
    by_cases hx : x.1 = k
    · rw [if_pos hx, List.filter_cons_of_neg (by simp), List.filter_cons_of_neg (by simp [hx])]; exact ih
    · rw [if_neg hx, List.filter_cons_of_pos (by simp [hx]), List.filter_cons_of_pos (by simp [hx]), ih]
theorem perm_set_del {l : List (κ × α)} (hn : (keysA l).Nodup) {k : κ} (h : k ∈ keysA l) (a : α) : (setA l k a).Perm ((k, a) :: delA l k) := by
  have := perm_get_del (l := setA l k a) (by rw [keysA_set]; exact hn) (getA_set_same h a)
  rwa [delA_set] at this
theorem mem_keys {l : List (κ × α)} {k : κ} {a : α} (h : getA l k = some a) : k ∈ keysA l := List.mem_map.2 ⟨_, getA_mem h, rfl⟩

theorem findK_map {l : List (κ × α)} {f : κ → Value} {k : κ} : ∀ {n : Nat}, ((findK (l.map fun x => (x.1, f x.1)) k n).map (·.2)) = (getA l k).map fun _ => f k := by
  induction l with
  | nil => intro n; rfl
  | cons x r ih =>
    intro n
    rw [List.map_cons]
    unfold findK getA
    by_cases hx : x.1 = k
    · rw [if_pos hx, if_pos hx, hx]; rfl
    · rw [if_neg hx, if_neg hx]; exact ih
theorem lookK_map {l : List (κ × α)} {f : κ → Value} {k : κ} : lookK (l.map fun x => (x.1, f x.1)) k = (getA l k).map fun _ => f k := findK_map
end
section
variable {Γ : Ctx} {K : Act → World → Prop} {E : Env} {L : List HProp} {κ : Type} [DecidableEq κ] {α : Type}
/-- The thing of a key is shown. -/
theorem TN.aopen (f : κ × α → List HProp) (l : List (κ × α)) (k : κ) (a : α) (hn : (keysA l).Nodup) (hk : getA l k = some a) {R : List HProp} [ht : Take1 (big f l) L R] (h : TN Γ K E (sep (f (k, a) ++ (big f (delA l k) :: R)))) : TN Γ K E (sep L) := by
  refine h.pre (Ent.of_eq ?_)
  rw [ht.out, big_perm (perm_get_del hn hk), big_cons, sep_append, star_assoc]
  rfl
/-- And put back, perhaps another one. -/
theorem TN.aclose (f : κ × α → List HProp) (l : List (κ × α)) (k : κ) (a : α) (hn : (keysA l).Nodup) (hk : k ∈ keysA l) {R : List HProp} [ht : Takes (f (k, a) ++ [big f (delA l k)]) L R] (h : TN Γ K E (sep (big f (setA l k a) :: R))) : TN Γ K E (sep L) := by
  refine h.pre (Ent.of_eq ?_)
  rw [ht.out, sep_append]
  show star (star (sep (f (k, a))) (star (big f (delA l k)) emp)) (sep R) = star (big f (setA l k a)) (sep R)
  rw [star_emp, big_perm (perm_set_del hn hk a), big_cons]
end
end Go.Sl

/-
  Package cell: Make.
-/
namespace Go.Sl.Tz
open Go Go.Proofs Go.Sl
set_option maxRecDepth 100000

/-- What Cells are asked for. -/
structure CellK (κ : CellM) : Prop where
  spn : (keysA κ.sp).Nodup
  min : (keysA κ.mi).Nodup
  spk : ∀ id, liveT κ.tr id = true → id ∈ keysA κ.sp
  mik : ∀ id, liveT κ.tr id = true → id ∈ keysA κ.mi
  parts : ∀ x ∈ κ.sp, x.2.parts.length < 2 ^ 31
def spOf (κ : CellM) (r : Int) : SpaceM := (getA κ.sp r).getD (space0 0)
def miOf (κ : CellM) (r : Int) : List Int := (getA κ.mi r).getD []
def leftT (τ : TableM) : Int := (τ.l.length : Int) - (τ.taken.count true : Nat)
def mkLay (κ : CellM) (id : Int) : Lay := (bookGet κ.bk id).1
def mkN (κ : CellM) (id count : Int) : Int := (sizeR (mkLay κ id) count).1 + 1
def allocC (κ : CellM) (region n : Int) : CellM := { κ with st := allocSt κ.st (spOf κ region) n, sp := setA κ.sp region (allocSp κ.st (spOf κ region) n) }
def allocA (κ : CellM) (region n : Int) : Int × Int := allocR κ.st (spOf κ region) n
def addC (κ : CellM) (region id count addr : Int) : CellM :=
  { κ with tb := addT κ.tb ⟨addr, region, true, false⟩, st := makeS κ.bk κ.st addr ⟨id, count, (addTok κ.tb).1⟩, mi := setA κ.mi region (putB (miOf κ region) (addTok κ.tb).1) }
def cMakeR (κ : CellM) (region id count : Int) : (Int × Int) × Int :=
  if liveT κ.tr region = false then ((0, 0), 15) else if (bookGet κ.bk id).2 ≠ 0 then ((0, 0), (bookGet κ.bk id).2)
  else if (sizeR (mkLay κ id) count).2 ≠ 0 then ((0, 0), (sizeR (mkLay κ id) count).2) else if leftT κ.tb = 0 then ((0, 0), 12)
  else if (allocA κ region (mkN κ id count)).2 ≠ 0 then ((0, 0), (allocA κ region (mkN κ id count)).2) else (addTok κ.tb, 0)
def cMakeS (κ : CellM) (region id count : Int) : CellM :=
  if liveT κ.tr region = false then κ else if (bookGet κ.bk id).2 ≠ 0 then κ
  else if (sizeR (mkLay κ id) count).2 ≠ 0 then κ else if leftT κ.tb = 0 then κ
  else if (allocA κ region (mkN κ id count)).2 ≠ 0 then allocC κ region (mkN κ id count) else addC (allocC κ region (mkN κ id count)) region id count (allocA κ region (mkN κ id count)).1
theorem addTok_lo (τ : TableM) : 0 ≤ (addTok τ).1 := by unfold addTok; split <;> (dsimp only; omega)
theorem addTok_hi {τ : TableM} (h : TableOK τ) : (addTok τ).1 < 4096 := by
  unfold addTok
  split
  · rename_i h1
    obtain ⟨i, e, hi, _⟩ := firstR_true h1
    rw [e]; dsimp only
    have := h.tl
    have := h.l2
    omega
  · decide
theorem lookK_sp {f : Int → Nat} {l : List (Int × SpaceM)} {k : Int} {m : SpaceM} (h : getA l k = some m) : lookK (spKV f l) k = some (pv (f k)) := by
  unfold spKV; rw [lookK_map (f := fun k => pv (f k)), h]; rfl
theorem lookK_mi {f : Int → Nat} {l : List (Int × List Int)} {k : Int} {m : List Int} (h : getA l k = some m) : lookK (miKV f l) k = some (pv (f k)) := by
  unfold miKV; rw [lookK_map (f := fun k => pv (f k)), h]; rfl
theorem spKV_set (f : Int → Nat) (l : List (Int × SpaceM)) (k : Int) (m : SpaceM) : spKV f (setA l k m) = spKV f l := by
  unfold spKV setA
  rw [List.map_map]
  exact List.map_congr_left fun x _ => by
    show ((if x.1 = k then (k, m) else x).1, pv (f (if x.1 = k then (k, m) else x).1)) = _
    split
    · rename_i h; rw [h]
    · rfl
theorem miKV_set (f : Int → Nat) (l : List (Int × List Int)) (k : Int) (m : List Int) : miKV f (setA l k m) = miKV f l := by
  unfold miKV setA
  rw [List.map_map]
  exact List.map_congr_left fun x _ => by
    show ((if x.1 = k then (k, m) else x).1, pv (f (if x.1 = k then (k, m) else x).1)) = _
    split
    · rename_i h; rw [h]
    · rfl
theorem getA_spOf {κ : CellM} {r : Int} (h : r ∈ keysA κ.sp) : getA κ.sp r = some (spOf κ r) := by
  obtain ⟨m, hm⟩ := getA_some h
  unfold spOf; rw [hm]; rfl
theorem getA_miOf {κ : CellM} {r : Int} (h : r ∈ keysA κ.mi) : getA κ.mi r = some (miOf κ r) := by
  obtain ⟨m, hm⟩ := getA_some h
  unfold miOf; rw [hm]; rfl
structure MakePre (κ : CellM) (region : Int) : Prop where
  k : CellK κ
  hend : ¬ (miOf κ region).contains (addTok κ.tb).1 = true → below (miOf κ region) (addTok κ.tb).1 = (miOf κ region).length
theorem cMake_fn (S : Hp) (hS : Tab S) (c : Nat) (P : CellP) (κ : CellM) (region id count : Int) (hp : MakePre κ region) : FNs S prog F_cell_Cells_Make #[pv c, iv region, iv id, iv count] [Cells c P κ]
    (fun _ : Unit => .tuple #[tokV (cMakeR κ region id count).1, iv (cMakeR κ region id count).2]) (fun _ => True) (fun _ => [Cells c P (cMakeS κ region id count)]) := by
  refine FNs_of_body func_cell_Cells_Make rfl ntmps_cell_Cells_Make rfl (fun R w0 => TM_start ?_)
  refine TN.open (Cells c P κ) rfl fun _ _ => ?_
  refine TN.packed (Book P.bk κ.bk) rfl fun bx hbx => ?_
  refine TN.packed (Store P.st κ.st) rfl fun sx hsx => ?_
  refine TN.packed (Tbl P.tb κ.tb) rfl fun tx htx => ?_
  refine TM_ops 2 tys_of rfl (TOp_alloc tys_of rfl rfl rfl fun b8 => ?_)
  refine TM_ops 18 tys_of rfl (TOp_exact rfl (Ex_load tys_of rfl rfl rfl lies_find rfl) ?_)
  refine TM_ops 1 tys_of rfl (TOp_calls rfl rfl cl_tree_Tree_Live (live_fn _ _ κ.tr _) fun y26 h26 => ?_)
  refine TM_run 4 tys_of rfl ?_
  refine TM_nbool (t := 20) rfl (fun h20 => ?_) (fun h20 => ?_)
  · refine TM_ops 4 tys_of rfl (TOp_store tys_of rfl rfl rfl rfl rfl rfl rfl rfl ?_)
    refine TM_run 6 tys_of rfl ?_
    simp only [cMakeR, cMakeS, mkLay, mkN, allocA, leftT, h20, ne_eq, not_true_eq_false, not_false_eq_true, if_true, if_false, ↓reduceIte, reduceCtorEq, Bool.false_eq_true, Bool.true_eq_false]
    refine TN.shut (Cells c P κ) rfl () trivial ?_
    refine TN_rets tys_of () (.inl rfl) rfl (rs := [.cell 8 69, .tmp 9]) rfl (vs := [_, _]) ⟨⟨_, _, _, _, _, _, rfl, rfl, lies_find, rfl⟩, rfl, trivial⟩ rfl trivial
  · have hm := getA_spOf (hp.k.spk region h20)
    have hb := getA_miOf (hp.k.mik region h20)
    refine TM_ops 9 tys_of rfl (TOp_exact rfl (Ex_load tys_of rfl rfl rfl lies_find rfl) ?_)
    refine TM_ops 1 tys_of rfl (TOp_calls rfl rfl cl_layout_Book_Get (bookGet_fn _ _ κ.bk _) fun y35 h35 => ?_)
    refine TM_ops 3 tys_of rfl (TOp_alloc tys_of rfl rfl rfl fun b10 => ?_)
    refine TM_ops 0 tys_of rfl (TOp_store tys_of rfl rfl rfl rfl rfl rfl rfl rfl ?_)
    refine TM_run 10 tys_of rfl ?_
    refine TM_ne (t := 39) rfl (fun h39 => ?_) (fun h39 => ?_)
    · refine TM_ops 5 tys_of rfl (TOp_store tys_of rfl rfl rfl rfl rfl rfl rfl rfl ?_)
      refine TM_run 5 tys_of rfl ?_
      simp only [cMakeR, cMakeS, mkLay, mkN, allocA, leftT, h20, h39, ne_eq, not_true_eq_false, not_false_eq_true, if_true, if_false, ↓reduceIte, reduceCtorEq, Bool.false_eq_true, Bool.true_eq_false]
      refine TN.shut (Cells c P κ) rfl () trivial ?_
      refine TN_rets tys_of () (.inl rfl) rfl (rs := [.cell 8 69, .tmp 9]) rfl (vs := [_, _]) ⟨⟨_, _, _, _, _, _, rfl, rfl, lies_find, rfl⟩, rfl, trivial⟩ rfl trivial
    · refine TM_ops 5 tys_of rfl (TOp_exact rfl (Ex_load tys_of rfl rfl rfl lies_find rfl) ?_)
      refine TM_ops 1 tys_of rfl (TOp_calls rfl rfl cl_layout_Size (size_fn _ _ (by exact bookGet_b hbx.2.1 _) _ _ _) fun y45 h45 => ?_)
      refine TM_run 16 tys_of rfl ?_
      refine TM_ne (t := 48) rfl (fun h48 => ?_) (fun h48 => ?_)
      · refine TM_ops 5 tys_of rfl (TOp_store tys_of rfl rfl rfl rfl rfl rfl rfl rfl ?_)
        refine TM_run 6 tys_of rfl ?_
        simp only [cMakeR, cMakeS, mkLay, mkN, allocA, leftT, h20, h39, h48, ne_eq, not_true_eq_false, not_false_eq_true, if_true, if_false, ↓reduceIte, reduceCtorEq, Bool.false_eq_true, Bool.true_eq_false]
        refine TN.shut (Cells c P κ) rfl () trivial ?_
        refine TN_rets tys_of () (.inl rfl) rfl (rs := [.cell 8 69, .tmp 9]) rfl (vs := [_, _]) ⟨⟨_, _, _, _, _, _, rfl, rfl, lies_find, rfl⟩, rfl, trivial⟩ rfl trivial
      · obtain ⟨n48, hn48, hlt48⟩ := sizeR_ok h48
        refine TM_ops 6 tys_of rfl (TOp_exact rfl (Ex_load tys_of rfl rfl rfl lies_find rfl) ?_)
        refine TM_ops 0 tys_of rfl (TOp_calls rfl rfl cl_table_Table_Left (left_fn _ _ κ.tb) fun y58 h58 => ?_)
        refine TM_run 4 tys_of rfl ?_
        refine TM_eq (t := 53) rfl (fun h53 => ?_) (fun h53 => ?_)
        · refine TM_ops 4 tys_of rfl (TOp_store tys_of rfl rfl rfl rfl rfl rfl rfl rfl ?_)
          refine TM_run 6 tys_of rfl ?_
          simp only [cMakeR, cMakeS, mkLay, mkN, allocA, leftT, h20, h39, h48, h53, ne_eq, not_true_eq_false, not_false_eq_true, if_true, if_false, ↓reduceIte, reduceCtorEq, Bool.false_eq_true, Bool.true_eq_false]
          refine TN.shut (Cells c P κ) rfl () trivial ?_
          refine TN_rets tys_of () (.inl rfl) rfl (rs := [.cell 8 69, .tmp 9]) rfl (vs := [_, _]) ⟨⟨_, _, _, _, _, _, rfl, rfl, lies_find, rfl⟩, rfl, trivial⟩ rfl trivial
        · refine TM_ops 9 tys_of rfl (TOp_exact rfl (Ex_load tys_of rfl rfl rfl lies_find rfl) ?_)
          refine TM_ops 1 tys_of rfl (TOp_lookup tys_of rfl rfl rfl iv rfl rfl rfl kI ?_)
          rw [lookK_sp hm]
          refine TN.aopen (spR P.st P.spf) κ.sp region (spOf κ region) hp.k.spn hm ?_
          dsimp only [spR]
          refine TM_run 2 tys_of rfl ?_
          rw [wrap_i64 (x := (sizeR (bookGet κ.bk id).fst count).fst + 1) (by omega) (by omega)]
          refine TM_ops 0 tys_of rfl (TOp_calls rfl rfl cl_bump_Space_Alloc (alloc_fn _ (by assumption) _ P.st κ.st (spOf κ region) (by exact hp.k.parts _ (getA_mem hm)) _ (by omega) (by exact hsx.1)) fun y70 h70 => ?_)
          refine TN.aclose (spR P.st P.spf) κ.sp region (allocSp κ.st (spOf κ region) ((sizeR (bookGet κ.bk id).1 count).1 + 1)) hp.k.spn (mem_keys hm) ?_
          rw [← spKV_set P.spf κ.sp region (allocSp κ.st (spOf κ region) ((sizeR (bookGet κ.bk id).1 count).1 + 1))]
          refine TM_run 14 tys_of rfl ?_
          refine TM_ne (t := 74) rfl (fun h74 => ?_) (fun h74 => ?_)
          · refine TM_ops 5 tys_of rfl (TOp_store tys_of rfl rfl rfl rfl rfl rfl rfl rfl ?_)
            refine TM_run 5 tys_of rfl ?_
            refine TN.re (Store P.st (allocSt κ.st (spOf κ region) ((sizeR (bookGet κ.bk id).fst count).fst + 1))) (Store P.st (allocC κ region ((sizeR (bookGet κ.bk id).fst count).fst + 1)).st) rfl ?_
            refine TN.re (Book P.bk κ.bk) (Book P.bk (allocC κ region ((sizeR (bookGet κ.bk id).fst count).fst + 1)).bk) rfl ?_
            refine TN.re (Tbl P.tb κ.tb) (Tbl P.tb (allocC κ region ((sizeR (bookGet κ.bk id).fst count).fst + 1)).tb) rfl ?_
            refine TN.re (Tree P.tr κ.tr) (Tree P.tr (allocC κ region ((sizeR (bookGet κ.bk id).fst count).fst + 1)).tr) rfl ?_
            refine TN.re (Rem P.rm κ.rem) (Rem P.rm (allocC κ region ((sizeR (bookGet κ.bk id).fst count).fst + 1)).rem) rfl ?_
            refine TN.re (MapOf iv P.spm (spKV P.spf (setA κ.sp region (allocSp κ.st (spOf κ region) ((sizeR (bookGet κ.bk id).fst count).fst + 1))))) (MapOf iv P.spm (spKV P.spf (allocC κ region ((sizeR (bookGet κ.bk id).fst count).fst + 1)).sp)) rfl ?_
            refine TN.re (MapOf iv P.mim (miKV P.mif κ.mi)) (MapOf iv P.mim (miKV P.mif (allocC κ region ((sizeR (bookGet κ.bk id).fst count).fst + 1)).mi)) rfl ?_
            refine TN.re (big (spR P.st P.spf) (setA κ.sp region (allocSp κ.st (spOf κ region) ((sizeR (bookGet κ.bk id).fst count).fst + 1)))) (big (spR P.st P.spf) (allocC κ region ((sizeR (bookGet κ.bk id).fst count).fst + 1)).sp) rfl ?_
            refine TN.re (big (miR P.mif) κ.mi) (big (miR P.mif) (allocC κ region ((sizeR (bookGet κ.bk id).fst count).fst + 1)).mi) rfl ?_
            refine TN.shut (Cells c P (allocC κ region ((sizeR (bookGet κ.bk id).1 count).1 + 1))) rfl () trivial ?_
            simp only [cMakeR, cMakeS, mkLay, mkN, allocA, leftT, h20, h39, h48, h53, h74, ne_eq, not_true_eq_false, not_false_eq_true, if_true, if_false, ↓reduceIte, reduceCtorEq, Bool.false_eq_true, Bool.true_eq_false]
            refine TN_rets tys_of () (.inl rfl) rfl (rs := [.cell 8 69, .tmp 9]) rfl (vs := [_, _]) ⟨⟨_, _, _, _, _, _, rfl, rfl, lies_find, rfl⟩, rfl, trivial⟩ rfl trivial
          · refine TM_ops 8 tys_of rfl (TOp_exact rfl (Ex_load tys_of rfl rfl rfl lies_find rfl) ?_)
            refine TM_ops 3 tys_of rfl (TOp_calls rfl rfl cl_table_Table_Add (tableAdd_fn _ (by assumption) _ κ.tb (EntM.mk (allocR κ.st (spOf κ region) ((sizeR (bookGet κ.bk id).fst count).fst + 1)).1 region true false)) fun y85 h85 => ?_)
            refine TM_ops 3 tys_of rfl (TOp_alloc tys_of rfl rfl rfl fun b14 => ?_)
            refine TM_ops 0 tys_of rfl (TOp_store tys_of rfl rfl rfl rfl rfl rfl rfl rfl ?_)
            refine TM_run 4 tys_of rfl ?_
            refine TM_draw (by kernel_rfl) (sep [cel b14 69 (setAll (cellsL y69.zero) 0 (cellsL (tokV (addTok κ.tb)))), cel b10 111 (setAll (cellsL y111.zero) 0 (cellsL (layV (bookGet κ.bk id).fst y35.fst y35.snd))), cel b8 69 (cellsL y69.zero), cel c T_cell_Cells (cellC P)]) 11 ?_
            refine TA_reads (fuel := 1) [0, 1, 2, 3, 4, 5, 6, 7, 8, 9] rfl (fun _ _ _ h => h) (by decide +kernel) (by decide +kernel) (by decide +kernel) (by decide +kernel) ent_takes ?_
            refine TR_puresN 3 tys_of rfl (TR_exact rfl (Ex_load tys_of rfl rfl rfl keep_find rfl) ?_)
            refine TR_puresN 4 tys_of rfl (TR_exact rfl (Ex_load tys_of rfl rfl rfl keep_find rfl) ?_)
            refine TR_puresN 1 tys_of rfl (TR_done ?_)
            refine TA_one (fuel := 0) 10 (by decide +kernel) (TOp_calls rfl rfl cl_image_Images_Make (imgMake_fn _ _ P.st P.bk κ.bk (allocSt κ.st (spOf κ region) ((sizeR (bookGet κ.bk id).fst count).fst + 1)) _ (HdrM.mk id count (addTok κ.tb).1)) fun y98 h98 => ?_)
            refine TB_low ent_takes ?_
            refine TM_drawn ?_ (by decide +kernel)
            refine TM_run 2 tys_of rfl ?_
            refine TM_draw (by kernel_rfl) (sep [cel b14 69 (setAll (cellsL y69.zero) 0 (cellsL (tokV (addTok κ.tb)))), cel b10 111 (setAll (cellsL y111.zero) 0 (cellsL (layV (bookGet κ.bk id).fst y35.fst y35.snd))), cel b8 69 (cellsL y69.zero), cel c T_cell_Cells (cellC P)]) 9 ?_
            refine TA_reads (fuel := 2) [0, 1, 2, 3, 4, 6, 7] rfl (fun _ _ _ h => h) (by decide +kernel) (by decide +kernel) (by decide +kernel) (by decide +kernel) ent_takes ?_
            refine TR_puresN 3 tys_of rfl (TR_exact rfl (Ex_load tys_of rfl rfl rfl keep_find rfl) ?_)
            refine TR_puresN 2 tys_of rfl (TR_exact rfl (Ex_load tys_of rfl rfl rfl keep_find rfl) ?_)
            refine TR_puresN 0 tys_of rfl (TR_done ?_)
            refine TA_one (fuel := 1) 5 (by decide +kernel) (TOp_lookup tys_of rfl rfl rfl iv rfl rfl rfl kI ?_)
            rw [lookK_mi hb]
            refine TN.aopen (miR P.mif) κ.mi region (miOf κ region) hp.k.min hb ?_
            dsimp only [miR]
            refine TB_low ent_takes ?_
            refine TA_one (fuel := 0) 8 (by decide +kernel) (TOp_calls rfl rfl cl_bag_Bag_int_Put (bagPut_fn _ _ (miOf κ region) _ (by exact addTok_lo _) (by exact addTok_hi htx.1) (by exact hp.hend)) fun y107 h107 => ?_)
            refine TN.aclose (miR P.mif) κ.mi region (putB (miOf κ region) (addTok κ.tb).1) hp.k.min (mem_keys hb) ?_
            rw [← miKV_set P.mif κ.mi region (putB (miOf κ region) (addTok κ.tb).1)]
            refine TB_low ent_takes ?_
            refine TM_drawn ?_ (by decide +kernel)
            refine TM_ops 3 tys_of rfl (TOp_exact rfl (Ex_load tys_of rfl rfl rfl lies_find rfl) ?_)
            refine TM_ops 0 tys_of rfl (TOp_store tys_of rfl rfl rfl rfl rfl rfl rfl rfl ?_)
            refine TM_run 4 tys_of rfl ?_
            refine TN.re (Store P.st (makeS κ.bk (allocSt κ.st (spOf κ region) ((sizeR (bookGet κ.bk id).fst count).fst + 1)) (allocR κ.st (spOf κ region) ((sizeR (bookGet κ.bk id).fst count).fst + 1)).fst (HdrM.mk id count (addTok κ.tb).fst))) (Store P.st (addC (allocC κ region ((sizeR (bookGet κ.bk id).fst count).fst + 1)) region id count (allocR κ.st (spOf κ region) ((sizeR (bookGet κ.bk id).fst count).fst + 1)).fst).st) rfl ?_
            refine TN.re (Book P.bk κ.bk) (Book P.bk (addC (allocC κ region ((sizeR (bookGet κ.bk id).fst count).fst + 1)) region id count (allocR κ.st (spOf κ region) ((sizeR (bookGet κ.bk id).fst count).fst + 1)).fst).bk) rfl ?_
            refine TN.re (Tbl P.tb (addT κ.tb (EntM.mk (allocR κ.st (spOf κ region) ((sizeR (bookGet κ.bk id).fst count).fst + 1)).fst region true false))) (Tbl P.tb (addC (allocC κ region ((sizeR (bookGet κ.bk id).fst count).fst + 1)) region id count (allocR κ.st (spOf κ region) ((sizeR (bookGet κ.bk id).fst count).fst + 1)).fst).tb) rfl ?_
            refine TN.re (Tree P.tr κ.tr) (Tree P.tr (addC (allocC κ region ((sizeR (bookGet κ.bk id).fst count).fst + 1)) region id count (allocR κ.st (spOf κ region) ((sizeR (bookGet κ.bk id).fst count).fst + 1)).fst).tr) rfl ?_
            refine TN.re (Rem P.rm κ.rem) (Rem P.rm (addC (allocC κ region ((sizeR (bookGet κ.bk id).fst count).fst + 1)) region id count (allocR κ.st (spOf κ region) ((sizeR (bookGet κ.bk id).fst count).fst + 1)).fst).rem) rfl ?_
            refine TN.re (MapOf iv P.spm (spKV P.spf (setA κ.sp region (allocSp κ.st (spOf κ region) ((sizeR (bookGet κ.bk id).fst count).fst + 1))))) (MapOf iv P.spm (spKV P.spf (addC (allocC κ region ((sizeR (bookGet κ.bk id).fst count).fst + 1)) region id count (allocR κ.st (spOf κ region) ((sizeR (bookGet κ.bk id).fst count).fst + 1)).fst).sp)) rfl ?_
            refine TN.re (MapOf iv P.mim (miKV P.mif (setA κ.mi region (putB (miOf κ region) (addTok κ.tb).fst)))) (MapOf iv P.mim (miKV P.mif (addC (allocC κ region ((sizeR (bookGet κ.bk id).fst count).fst + 1)) region id count (allocR κ.st (spOf κ region) ((sizeR (bookGet κ.bk id).fst count).fst + 1)).fst).mi)) rfl ?_
            refine TN.re (big (spR P.st P.spf) (setA κ.sp region (allocSp κ.st (spOf κ region) ((sizeR (bookGet κ.bk id).fst count).fst + 1)))) (big (spR P.st P.spf) (addC (allocC κ region ((sizeR (bookGet κ.bk id).fst count).fst + 1)) region id count (allocR κ.st (spOf κ region) ((sizeR (bookGet κ.bk id).fst count).fst + 1)).fst).sp) rfl ?_
            refine TN.re (big (miR P.mif) (setA κ.mi region (putB (miOf κ region) (addTok κ.tb).fst))) (big (miR P.mif) (addC (allocC κ region ((sizeR (bookGet κ.bk id).fst count).fst + 1)) region id count (allocR κ.st (spOf κ region) ((sizeR (bookGet κ.bk id).fst count).fst + 1)).fst).mi) rfl ?_
            refine TN.shut (Cells c P (addC (allocC κ region ((sizeR (bookGet κ.bk id).1 count).1 + 1)) region id count (allocR κ.st (spOf κ region) ((sizeR (bookGet κ.bk id).1 count).1 + 1)).1)) rfl () trivial ?_
            simp only [cMakeR, cMakeS, mkLay, mkN, allocA, leftT, h20, h39, h48, h53, h74, ne_eq, not_true_eq_false, not_false_eq_true, if_true, if_false, ↓reduceIte, reduceCtorEq, Bool.false_eq_true, Bool.true_eq_false]
            refine TN_rets tys_of () (.inl rfl) rfl (rs := [.cell 8 69, .tmp 9]) rfl (vs := [_, _]) ⟨⟨_, _, _, _, _, _, rfl, rfl, lies_find, rfl⟩, rfl, trivial⟩ rfl trivial
end Go.Sl.Tz

/-
  Package cell: a valid token's entry; what is done with its object; Get.
-/
namespace Go.Sl.Tz
open Go Go.Proofs Go.Sl
set_option maxRecDepth 100000

def validE (τ : TableM) (t : Int × Int) : EntM × Int := if (getT τ t).2 ≠ 0 then (ent0, 8) else if (getT τ t).1.held = false then (ent0, 8) else ((getT τ t).1, 0)
theorem valid_fn (S : Hp) (c : Nat) (P : CellP) (κ : CellM) (t : Int × Int) : FNs S prog F_cell_Cells_valid #[pv c, tokV t] [Cells c P κ]
    (fun _ : Unit => .tuple #[entV (validE κ.tb t).1, iv (validE κ.tb t).2]) (fun _ => True) (fun _ => [Cells c P κ]) := by
  refine FNs_of_body func_cell_Cells_valid rfl ntmps_cell_Cells_valid rfl (fun R w0 => TM_start ?_)
  refine TN.open (Cells c P κ) rfl fun _ _ => ?_
  refine TM_ops 2 tys_of rfl (TOp_box rfl rfl rfl fun b3 => ?_)
  refine TM_ops 0 tys_of rfl (TOp_alloc tys_of rfl rfl rfl fun b4 => ?_)
  refine TM_run 14 tys_of rfl ?_
  refine TM_draw (by kernel_rfl) (sep [cel b4 98 (cellsL y98.zero), cel b3 69 (cellsL (tokV t, 0 + 1).fst), cel c T_cell_Cells (cellC P)]) 12 ?_
  refine TA_reads (fuel := 7) [0, 1, 2, 3, 4] rfl (fun _ _ _ h => h) (by decide +kernel) (by decide +kernel) (by decide +kernel) (by decide +kernel) ent_takes ?_
  refine TR_puresN 3 tys_of rfl (TR_exact rfl (Ex_load tys_of rfl rfl rfl keep_find rfl) ?_)
  refine TR_puresN 0 tys_of rfl (TR_exact rfl (Ex_load tys_of rfl rfl rfl keep_find rfl) ?_)
  refine TR_puresN 0 tys_of rfl (TR_done ?_)
  refine TA_have (fuel' := 2) (listed' := #[true, true, true, true, true, true, true, true, true, true, false, false]) (fun y : Unit × Nat => True) (fun y : Unit × Nat => ⟨29, [], [(6, pv y.2), (19, iv (getT κ.tb t).snd), (18, Value.agg #[iv (getT κ.tb t).fst.addr, iv (getT κ.tb t).fst.region, Value.bool (getT κ.tb t).fst.held, Value.bool (getT κ.tb t).fst.pinned]), (5, iv 0), (4, pv b4)]⟩) (fun y : Unit × Nat => [cel y.2 98 (cellsL y98.zero), Tbl P.tb κ.tb, cel b4 98 (cellsL y98.zero), cel b3 69 (cellsL (tokV t, 0 + 1).fst), cel c T_cell_Cells (cellC P), Store P.st κ.st, Book P.bk κ.bk, Img P.im P.st P.bk, Tree P.tr κ.tr, Rem P.rm κ.rem, MapOf iv P.spm (spKV P.spf κ.sp), MapOf iv P.mim (miKV P.mif κ.mi), big (spR P.st P.spf) κ.sp, big (miR P.mif) κ.mi]) ?_ ?_
  rotate_left
  · intro tail
    refine TA_two (fuel := 6) 5 9 (by decide +kernel) ?_ ?_
    · refine TOp_calls rfl rfl cl_table_Table_Get (tableGet_fn _ _ κ.tb _) fun y17 h17 => ?_
      refine TB_low ent_takes ?_
      refine TA_frees (fuel := 3) [6, 7, 8] rfl (fun _ _ _ h => h) (by decide +kernel) ?_
      refine TR_puresN 3 tys_of rfl (TR_done ?_)
      refine TA_one (fuel := 2) 9 (by decide +kernel) (TOp_alloc tys_of rfl rfl rfl fun b6 => ?_)
      refine TB_low ent_takes ?_
      exact TA_use (tail (y17, b6) trivial) (by decide +kernel) (Env.le_of_knows (by repeat constructor))
    · refine TOp_alloc tys_of rfl rfl rfl fun b6 => ?_
      refine TB_low ent_takes ?_
      refine TA_one (fuel := 5) 5 (by decide +kernel) (TOp_calls rfl rfl cl_table_Table_Get (tableGet_fn _ _ κ.tb _) fun y17 h17 => ?_)
      refine TB_low ent_takes ?_
      refine TA_frees (fuel := 2) [6, 7, 8] rfl (fun _ _ _ h => h) (by decide +kernel) ?_
      refine TR_puresN 3 tys_of rfl (TR_done ?_)
      exact TA_use (tail (y17, b6) trivial) (by decide +kernel) (Env.le_of_knows (by repeat constructor))
  rintro ⟨y17, b6⟩ -
  refine TA_one (fuel := 1) 10 (by decide +kernel) (TOp_store tys_of rfl rfl rfl rfl rfl rfl rfl rfl ?_)
  refine TB_low ent_takes ?_
  refine TA_frees (fuel := 0) [11] rfl (fun _ _ _ h => h) (by decide +kernel) ?_
  refine TR_puresN 1 tys_of rfl (TR_done ?_)
  refine TM_drawn ?_ (by decide +kernel)
  refine TM_run 7 tys_of rfl ?_
  refine TM_ne (t := 22) rfl (fun h22 => ?_) (fun h22 => ?_)
  · refine TM_ops 10 tys_of rfl (TOp_store tys_of rfl rfl rfl rfl rfl rfl rfl rfl ?_)
    refine TM_run 5 tys_of rfl ?_
    rw [show validE κ.tb t = (ent0, 8) from if_pos h22]
    refine TN.shut (Cells c P κ) rfl () trivial ?_
    refine TN_rets tys_of () (.inl rfl) rfl (rs := [.cell 4 98, .tmp 5]) rfl (vs := [_, _]) ⟨⟨_, _, _, _, _, _, rfl, rfl, lies_find, rfl⟩, rfl, trivial⟩ rfl trivial
  · refine TM_ops 1 tys_of rfl (TOp_exact rfl (Ex_load tys_of rfl rfl rfl lies_find rfl) ?_)
    refine TM_run 4 tys_of rfl ?_
    refine TM_nbool (t := 26) rfl (fun h26 => ?_) (fun h26 => ?_)
    · refine TM_ops 4 tys_of rfl (TOp_store tys_of rfl rfl rfl rfl rfl rfl rfl rfl ?_)
      refine TM_run 5 tys_of rfl ?_
      rw [show validE κ.tb t = (ent0, 8) from by unfold validE; rw [if_neg (by simpa using h22), if_pos h26]]
      refine TN.shut (Cells c P κ) rfl () trivial ?_
      refine TN_rets tys_of () (.inl rfl) rfl (rs := [.cell 4 98, .tmp 5]) rfl (vs := [_, _]) ⟨⟨_, _, _, _, _, _, rfl, rfl, lies_find, rfl⟩, rfl, trivial⟩ rfl trivial
    · refine TM_ops 5 tys_of rfl (TOp_exact rfl (Ex_load tys_of rfl rfl rfl lies_find rfl) ?_)
      refine TM_ops 0 tys_of rfl (TOp_store tys_of rfl rfl rfl rfl rfl rfl rfl rfl ?_)
      refine TM_run 4 tys_of rfl ?_
      rw [show validE κ.tb t = ((getT κ.tb t).1, 0) from by unfold validE; rw [if_neg (by simpa using h22), if_neg (by simpa using h26)]]
      refine TN.shut (Cells c P κ) rfl () trivial ?_
      refine TN_rets tys_of () (.inl rfl) rfl (rs := [.cell 4 98, .tmp 5]) rfl (vs := [_, _]) ⟨⟨_, _, _, _, _, _, rfl, rfl, lies_find, rfl⟩, rfl, trivial⟩ rfl trivial
section
variable {Γ : Ctx} {K : Act → World → Prop} {E : Env} {L : List HProp}
/-- Some things under one name, and apart again. -/
theorem TN.wrap (M : List HProp) {R : List HProp} [ht : Takes M L R] (h : TN Γ K E (sep (sep M :: R))) : TN Γ K E (sep L) := h.pre (Ent.of_eq ht.out)
theorem TN.unwrap (M : List HProp) {R : List HProp} [ht : Take1 (sep M) L R] (h : TN Γ K E (sep (M ++ R))) : TN Γ K E (sep L) := h.pre (Ent.of_eq (by rw [ht.out, sep_append]))
end
theorem FNs.framed {S : Hp} {P : Program} {f : FuncId} {args : Array Value} {A : HProp} {M : List HProp} {ι : Type} {V : ι → Value} {φ : ι → Prop} {Lq : ι → List HProp} (h : FNs S P f args (A :: M) V φ Lq) : FNs S P f args [A, sep M] V φ Lq := by
  unfold FNs at *
  rw [show sep [A, sep M] = sep (A :: M) by show star A (star (sep M) emp) = star A (sep M); rw [star_emp]]
  exact h
abbrev withV {ι : Type} (e : Int) (V : ι → Int) : Option ι → Int
  | none => e
  | some x => V x
abbrev withP {ι : Type} (e : Int) (φ : ι → Prop) : Option ι → Prop
  | none => e ≠ 0
  | some x => e = 0 ∧ φ x
abbrev withL {ι : Type} (L : List HProp) (Lq : ι → List HProp) : Option ι → List HProp
  | none => L
  | some x => Lq x
theorem with_fn (S : Hp) (c : Nat) (P : CellP) (κ : CellM) (t : Int × Int) (g : FuncId) (hcl : Callable prog g) (cap : List Value) (A : HProp) {ι : Type} (V : ι → Int) (φ : ι → Prop) (Lq : ι → List HProp)
    (hdo : (validE κ.tb t).2 = 0 → FNs S prog g (entV (validE κ.tb t).1 :: cap).toArray [Cells c P κ, A] (fun x => iv (V x)) φ Lq) :
    FNs S prog F_cell_Cells_with #[pv c, tokV t, .func (.func g) #[] cap.toArray] [Cells c P κ, A]
      (fun o : Option ι => iv (withV (validE κ.tb t).2 V o)) (withP (validE κ.tb t).2 φ) (withL [Cells c P κ, A] Lq) := by
  refine FNs_of_body func_cell_Cells_with rfl ntmps_cell_Cells_with rfl (fun R w0 => TM_start ?_)
  refine TM_ops 2 tys_of rfl (TOp_box rfl rfl rfl fun b4 => ?_)
  refine TM_ops 6 tys_of rfl (TOp_exact rfl (Ex_load tys_of rfl rfl rfl lies_find rfl) ?_)
  refine TM_ops 0 tys_of rfl (TOp_calls rfl rfl cl_cell_Cells_valid (valid_fn _ _ P κ _) fun y12 h12 => ?_)
  refine TM_ops 3 tys_of rfl (TOp_alloc tys_of rfl rfl rfl fun b7 => ?_)
  refine TM_ops 0 tys_of rfl (TOp_store tys_of rfl rfl rfl rfl rfl rfl rfl rfl ?_)
  refine TM_run 10 tys_of rfl ?_
  refine TM_ne (t := 16) rfl (fun h16 => ?_) (fun h16 => ?_)
  · refine TM_run 9 tys_of rfl ?_
    refine TN_rets tys_of none (.inl rfl) rfl (rs := [.tmp 6]) rfl (vs := [_]) ⟨rfl, trivial⟩ rfl h16
  · refine TM_ops 6 tys_of rfl (TOp_exact rfl (Ex_load tys_of rfl rfl rfl lies_find rfl) ?_)
    refine TM_ops 0 tys_of rfl (TOp_calls rfl rfl hcl (hdo h16) fun y20 h20 => ?_)
    refine TM_run 4 tys_of rfl ?_
    refine TN_rets tys_of (some y20) (.inl rfl) rfl (rs := [.tmp 6]) rfl (vs := [_]) ⟨rfl, trivial⟩ rfl ⟨h16, h20⟩
theorem get1_fn (S : Hp) (c : Nat) (P : CellP) (κ : CellM) (x : EntM) (b3 b5 b8 : Nat) (place : Int) : FNs S prog F_cell_Cells_Get_1 #[entV x, pv b3, pv b5, pv b8]
    [Cells c P κ, cel b3 T_P_cell_Cells [pv c], cel b5 T_int [iv place], cel b8 T_uint64 [uv 0]] (fun _ : Unit => iv (loadR κ.bk κ.st x.addr place).2) (fun _ => True)
    (fun _ => [Cells c P κ, cel b3 T_P_cell_Cells [pv c], cel b5 T_int [iv place], cel b8 T_uint64 [uv (loadR κ.bk κ.st x.addr place).1]]) := by
  refine FNs_of_body func_cell_Cells_Get_1 rfl ntmps_cell_Cells_Get_1 rfl (fun R w0 => TM_start ?_)
  refine TN.open (Cells c P κ) rfl fun _ _ => ?_
  refine TM_ops 2 tys_of rfl (TOp_box rfl rfl rfl fun b4 => ?_)
  refine TM_run 4 tys_of rfl ?_
  refine TM_draw (by kernel_rfl) (sep [cel b4 98 (cellsL (entV x, 0).fst), cel c T_cell_Cells (cellC P), cel b3 T_P_cell_Cells [pv c], cel b5 T_int [iv place]]) 13 ?_
  refine TA_reads (fuel := 6) [0, 1, 2, 3, 4, 5, 6] rfl (fun _ _ _ h => h) (by decide +kernel) (by decide +kernel) (by decide +kernel) (by decide +kernel) ent_takes ?_
  refine TR_puresN 0 tys_of rfl (TR_exact rfl (Ex_load tys_of rfl rfl rfl keep_find rfl) ?_)
  refine TR_puresN 2 tys_of rfl (TR_exact rfl (Ex_load tys_of rfl rfl rfl keep_find rfl) ?_)
  refine TR_puresN 1 tys_of rfl (TR_exact rfl (Ex_load tys_of rfl rfl rfl keep_find rfl) ?_)
  refine TR_puresN 0 tys_of rfl (TR_exact rfl (Ex_load tys_of rfl rfl rfl keep_find rfl) ?_)
  refine TR_puresN 0 tys_of rfl (TR_done ?_)
  refine TA_one (fuel := 5) 7 (by decide +kernel) (TOp_calls rfl rfl cl_image_Images_Load (imgLoad_fn _ _ P.st P.bk κ.bk κ.st _ _) fun y14 h14 => ?_)
  refine TB_low ent_takes ?_
  refine TA_frees (fuel := 2) [8, 9, 10] rfl (fun _ _ _ h => h) (by decide +kernel) ?_
  refine TR_puresN 3 tys_of rfl (TR_done ?_)
  refine TA_one (fuel := 1) 11 (by decide +kernel) (TOp_store tys_of rfl rfl rfl rfl rfl rfl rfl rfl ?_)
  refine TB_low ent_takes ?_
  refine TA_frees (fuel := 0) [12] rfl (fun _ _ _ h => h) (by decide +kernel) ?_
  refine TR_puresN 1 tys_of rfl (TR_done ?_)
  refine TM_drawn ?_ (by decide +kernel)
  refine TM_run 8 tys_of rfl ?_
  refine TN.shut (Cells c P κ) rfl () trivial ?_
  refine TN.as b8 (cel b8 T_uint64 [uv (loadR κ.bk κ.st x.addr place).fst]) rfl ?_
  refine TN_rets tys_of () (.inl rfl) rfl (rs := [.tmp 5]) rfl (vs := [_]) ⟨rfl, trivial⟩ rfl trivial
def cGetR (κ : CellM) (t : Int × Int) (place : Int) : Nat × Int := if (validE κ.tb t).2 ≠ 0 then (0, (validE κ.tb t).2) else loadR κ.bk κ.st (validE κ.tb t).1.addr place
theorem cGet_fn (S : Hp) (c : Nat) (P : CellP) (κ : CellM) (t : Int × Int) (place : Int) : FNs S prog F_cell_Cells_Get #[pv c, tokV t, iv place] [Cells c P κ]
    (fun _ : Unit => .tuple #[uv (cGetR κ t place).1, iv (cGetR κ t place).2]) (fun _ => True) (fun _ => [Cells c P κ]) := by
  refine FNs_of_body func_cell_Cells_Get rfl ntmps_cell_Cells_Get rfl (fun R w0 => TM_start ?_)
  refine TM_ops 2 tys_of rfl (TOp_box rfl rfl rfl fun b3 => ?_)
  refine TM_ops 0 tys_of rfl (TOp_box rfl rfl rfl fun b4 => ?_)
  refine TM_ops 0 tys_of rfl (TOp_box rfl rfl rfl fun b5 => ?_)
  refine TM_ops 6 tys_of rfl (TOp_alloc tys_of rfl rfl rfl fun b8 => ?_)
  refine TM_ops 4 tys_of rfl (TOp_exact rfl (Ex_load tys_of rfl rfl rfl lies_find rfl) ?_)
  refine TM_ops 0 tys_of rfl (TOp_exact rfl (Ex_load tys_of rfl rfl rfl lies_find rfl) ?_)
  refine TM_run 1 tys_of rfl ?_
  refine TN.as b3 (cel b3 T_P_cell_Cells [pv c]) rfl ?_
  refine TN.as b5 (cel b5 T_int [iv place]) rfl ?_
  refine TN.as b8 (cel b8 T_uint64 [uv 0]) rfl ?_
  refine TN.wrap [cel b3 T_P_cell_Cells [pv c], cel b5 T_int [iv place], cel b8 T_uint64 [uv 0]] ?_
  refine TM_ops 0 tys_of rfl (TOp_calls rfl rfl cl_cell_Cells_with (with_fn _ c P κ t F_cell_Cells_Get_1 cl_cell_Cells_Get_1 [pv b3, pv b5, pv b8] (sep [cel b3 T_P_cell_Cells [pv c], cel b5 T_int [iv place], cel b8 T_uint64 [uv 0]]) (fun _ => (loadR κ.bk κ.st (validE κ.tb t).1.addr place).2) (fun _ => True) (fun _ => [Cells c P κ, cel b3 T_P_cell_Cells [pv c], cel b5 T_int [iv place], cel b8 T_uint64 [uv (loadR κ.bk κ.st (validE κ.tb t).1.addr place).1]]) (fun _ => FNs.framed (get1_fn _ c P κ (validE κ.tb t).1 b3 b5 b8 place))) fun y13 h13 => ?_)
  rcases y13 with _ | y13
  refine TN.unwrap [cel b3 T_P_cell_Cells [pv c], cel b5 T_int [iv place], cel b8 T_uint64 [uv 0]] ?_
  · refine TM_ops 5 tys_of rfl (TOp_exact rfl (Ex_load tys_of rfl rfl rfl lies_find rfl) ?_)
    refine TM_run 6 tys_of rfl ?_
    rw [show cGetR κ t place = (0, (validE κ.tb t).2) from if_pos h13]
    refine TN_rets tys_of () (.inl rfl) rfl (rs := [.tmp 6, .tmp 7]) rfl (vs := [_, _]) ⟨rfl, rfl, trivial⟩ rfl trivial
  · refine TM_ops 5 tys_of rfl (TOp_exact rfl (Ex_load tys_of rfl rfl rfl lies_find rfl) ?_)
    refine TM_run 6 tys_of rfl ?_
    rw [show cGetR κ t place = loadR κ.bk κ.st (validE κ.tb t).1.addr place from if_neg (by simpa using h13.1)]
    refine TN_rets tys_of () (.inl rfl) rfl (rs := [.tmp 6, .tmp 7]) rfl (vs := [_, _]) ⟨rfl, rfl, trivial⟩ rfl trivial
end Go.Sl.Tz

/-
  Separation logic over the model's heap: rows that are lent to be read.
-/
namespace Go.Sl
open Go
theorem FNs.lend {S : Hp} {P : Program} {f : FuncId} {args : Array Value} {A : HProp} {Lp : List HProp} {ι : Type} {V : ι → Value} {φ : ι → Prop} {Lq : ι → List HProp}
    (h : ∀ T, A T → hdisj S T → FNs (hjoin S T) P f args Lp V φ Lq) : FNs S P f args (A :: Lp) V φ (fun x => A :: Lq x) :=
  (FN.lend (Q := fun v => Sl.ex fun x => star (Sl.lift (v = V x ∧ φ x)) (sep (Lq x))) h).conseq (.refl _) fun v hh hx => by
    obtain ⟨p, q, d, e, ha, x, hq⟩ := hx
    obtain ⟨hv, hq⟩ := (lift_star _ _ _).1 hq
    exact ⟨x, (lift_star _ _ _).2 ⟨hv, p, q, d, e, ha, hq⟩⟩
namespace Tz
open Go.Sl
/-- The integers of a slice lie where they may be read. -/
structure RORow (S : Hp) (s : Slc) (xs : List Int) : Prop where
  n : s.n = xs.length
  cap : s.n ≤ s.cap
  lies : 0 < xs.length → ∃ g pre sp, s.a = some ⟨g, pre.length, none⟩ ∧ S g = some (.cells (pre ++ (xs.map iv ++ sp)).toArray T_int)
theorem RORow.more {S T : Hp} {s : Slc} {xs : List Int} (h : RORow S s xs) : RORow (hjoin S T) s xs :=
  ⟨h.n, h.cap, fun h0 => let ⟨g, pre, sp, h1, h2⟩ := h.lies h0; ⟨g, pre, sp, h1, hjoin_left h2⟩⟩
theorem RORow.of {S T : Hp} {s : Slc} {xs : List Int} (h : Row s T_int 1 (xs.map iv) T) (d : hdisj S T) : RORow (hjoin S T) s xs := by
  obtain ⟨x, hx⟩ := h
  obtain ⟨hp, hx⟩ := (lift_star _ _ _).1 hx
  have hlen := hp.len
  simp only [List.length_map, Nat.mul_one] at hlen
  cases x with
  | none => exact ⟨hlen.symm, by rw [hp.1]; exact Nat.le_refl _, fun h0 => by have := hp.2; simp at this; subst this; cases h0⟩
  | some y =>
    obtain ⟨g, pre, sp⟩ := y
    refine ⟨hlen.symm, hp.2.2.1, fun _ => ⟨g, pre, sp, hp.1, ?_⟩⟩
    refine hjoin_right d ?_
    have hx' : star (cel g T_int (pre ++ (xs.map iv ++ sp))) emp T := hx
    rw [star_emp] at hx'
    have : T = fun x => if x = g then some (.cells (pre ++ (xs.map iv ++ sp)).toArray T_int) else none := hx'
    rw [this]; simp
/-- What a slice expression x[k:] yields. -/
def dropS (s : Slc) (k : Nat) : Slc := ⟨if s.cap = k then s.a else s.a.map (·.add (k * 1)), s.n - k, s.cap - k⟩
theorem RORow.drop {S : Hp} {s : Slc} {xs : List Int} (h : RORow S s xs) {k : Nat} (hk : k ≤ xs.length) : RORow S (dropS s k) (xs.drop k) := by
  refine ⟨by show s.n - k = _; rw [List.length_drop, h.n], Nat.sub_le_sub_right h.cap k, fun h0 => ?_⟩
  rw [List.length_drop] at h0
  obtain ⟨g, pre, sp, h1, h2⟩ := h.lies (by omega)
  have hc := h.cap
  have hn := h.n
  refine ⟨g, pre ++ (xs.take k).map iv, sp, ?_, ?_⟩
  · show (if s.cap = k then s.a else s.a.map (·.add (k * 1))) = _
    rw [if_neg (by omega), h1]
    simp [Addr.add_none, Nat.min_eq_left hk]
  · rw [h2]
    congr 3
    rw [List.append_assoc, ← List.append_assoc ((xs.take k).map iv), ← List.map_append, List.take_append_drop]
end Tz
end Go.Sl
