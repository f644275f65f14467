/-
  A part of the proof of the statement about OpNone: laws of what a heap owns, the functions' contracts, in the order in which they call each other: Bitmap2, Store, Store2, Bump, Store3.
-/
import Derived.Test.YtjifmcdlbffemaaGreatDoorSlOpNoneA
import Derived.Test.YtjifmcdlbffemaaGreatDoorSlOpNoneB
import Derived.Test.YtjifmcdlbffemaaGreatDoorSlOpNoneC
import Derived.Test.YtjifmcdlbffemaaGreatDoorSlOpNoneD
set_option linter.unusedVariables false
set_option linter.unusedSimpArgs false

/-
  The contracts of package bitmap, second part. By mk.py out of spec/SlBitmap2.spec.
-/
namespace Go.Sl.Tz
open Go Go.Proofs Go.Sl
set_option maxRecDepth 100000

theorem count_fn (S : Hp) (p : Nat) (l : List Bool) : FNs S prog F_bitmap_Map_Count #[.pointer (some ⟨p, 0, none⟩)] [Bmp p l] (fun (_ : Unit) => iv (l.count true)) (fun _ => True) (fun _ => [Bmp p l]) := by
  refine FNs_of_body func_bitmap_Map_Count rfl ntmps_bitmap_Map_Count rfl ?_
  intro R w0
  refine TN.unpack fun q hl => ?_
  refine TC_seq ?_
  refine TC_region ?_
  refine TO_puresN 1 tys_of rfl (TO_nil ?_)
  refine TC_seq ?_
  refine TC_seq ?_
  refine TC_region ?_
  refine TO_puresN 2 tys_of rfl (TO_nil ?_)
  refine TC_false rfl ?_
  refine TC_skip ?_
  refine TC_seq ?_
  refine TC_region ?_
  refine TO_puresN 3 tys_of rfl (TO_cons (TOp_exact rfl (Ex_load tys_of rfl rfl rfl lies_find rfl) ?_))
  refine TO_puresN 1 tys_of rfl (TO_nil ?_)
  refine TC_ret ?_
  repeat (first | refine TN_thenr ?_ | refine TN_blockr ?_)
  refine TN.fold (Bmp p l) (ent_pack q hl) ?_
  refine TN_rets tys_of () (.inl rfl) rfl (rs := [.tmp 2]) rfl (vs := [_]) ⟨rfl, trivial⟩ rfl trivial

/-! ### The first one from a place on -/
def seek (v : Bool) (l : List Bool) (i : Nat) : Nat := i + ((l.drop i).takeWhile (· != v)).length
theorem takeWhile_len {p : Bool → Bool} : ∀ {l : List Bool} {k : Nat}, k ≤ l.length → (∀ j, j < k → p (l.getD j false) = true) → (k < l.length → p (l.getD k false) = false) → (l.takeWhile p).length = k
  | [], k, hk, _, _ => by simp at hk; subst hk; rfl
  | a :: l, 0, _, _, h => by
    have := h (by simp)
    simp at this
    simp [List.takeWhile_cons, this]
  | a :: l, k + 1, hk, h1, h2 => by
    have h0 := h1 0 (by omega)
    simp at h0
    simp only [List.takeWhile_cons, h0, if_true, List.length_cons]
    rw [takeWhile_len (l := l) (k := k) (by simpa using hk) (fun j hj => by simpa using h1 (j + 1) (by omega)) (fun hk' => by simpa using h2 (by simpa using hk'))]
theorem seek_eq {v : Bool} {l : List Bool} {i s : Nat} (h1 : i ≤ s) (h2 : s ≤ l.length) (h3 : ∀ j, i ≤ j → j < s → l.getD j false = !v) (h4 : s < l.length → l.getD s false = v) : seek v l i = s := by
  unfold seek
  rw [takeWhile_len (k := s - i) (by simp; omega) (fun j hj => by
    have := h3 (i + j) (by omega) (by omega)
    simp only [List.getD, List.getElem?_drop] at this ⊢
    rw [this]; cases v <;> rfl) (fun hk => by
    have := h4 (by simp at hk; omega)
    simp only [List.getD, List.getElem?_drop] at this ⊢
    rw [show i + (s - i) = s by omega, this]; cases v <;> rfl)]
  omega
theorem shift_bit (l : List Bool) (k t : Nat) : ((wordN l (k / 64)) >>> (k % 64)).testBit t = (decide (k % 64 + t < 64) && l.getD (k + t) false) := by
  rw [Nat.testBit_shiftRight]
  by_cases h : k % 64 + t < 64
  · have := wordN_bit l (k + t)
    rw [show (k + t) / 64 = k / 64 by omega, show (k + t) % 64 = k % 64 + t by omega] at this
    simp [h, this]
  · rw [Nat.testBit_lt_two_pow (Nat.lt_of_lt_of_le (wordN_lt l _) (Nat.pow_le_pow_right (by decide) (by omega)))]
    simp [h]
theorem shift_off (l : List Bool) (k t : Nat) : ((2 ^ 64 - 1 - wordN l (k / 64)) >>> (k % 64)).testBit t = (decide (k % 64 + t < 64) && !l.getD (k + t) false) := by
  rw [Nat.testBit_shiftRight]
  have hlt := wordN_lt l (k / 64)
  rw [show 2 ^ 64 - 1 - wordN l (k / 64) = 2 ^ 64 - (wordN l (k / 64) + 1) by omega, Nat.testBit_two_pow_sub_succ hlt]
  by_cases h : k % 64 + t < 64
  · have := wordN_bit l (k + t)
    rw [show (k + t) / 64 = k / 64 by omega, show (k + t) % 64 = k % 64 + t by omega] at this
    simp [h, this]
  · simp [h]
theorem shr_lt {a : Nat} (k : Nat) (h : a < 2 ^ 64) : a >>> k < 2 ^ 64 := by
  rw [Nat.shiftRight_eq_div_pow]; exact Nat.lt_of_le_of_lt (Nat.div_le_self _ _) h
theorem wordsLoad {l : List Bool} {k : Nat} (h : k < l.length) : loadL y62 (wordsOf l) (0 + k / 64 * 1) = some (uv (wordN l (k / 64))) := by
  rw [Nat.zero_add]
  exact loadL_one rfl (wordsOf_get (by omega))

theorem getD_ge {l : List Bool} {j : Nat} (h : l.length ≤ j) : l.getD j false = false := by simp [List.getD, List.getElem?_eq_none h]
/-- In the word of a place one is on. -/
theorem seek_in {l : List Bool} {i k : Nat} (hik : i ≤ k) (hno : ∀ j, i ≤ j → j < k → l.getD j false = false) (hz : (wordN l (k / 64)) >>> (k % 64) ≠ 0) :
    k + Lib.ctz 64 ((wordN l (k / 64)) >>> (k % 64)) < l.length ∧ seek true l i = k + Lib.ctz 64 ((wordN l (k / 64)) >>> (k % 64)) := by
  obtain ⟨hc1, hc2, hc3⟩ := ctz_spec hz (shr_lt _ (wordN_lt _ _))
  generalize Lib.ctz 64 ((wordN l (k / 64)) >>> (k % 64)) = t at *
  rw [shift_bit] at hc2
  simp only [Bool.and_eq_true, decide_eq_true_eq] at hc2
  have hlt : k + t < l.length := Nat.lt_of_not_le fun hc => by rw [getD_ge hc] at hc2; cases hc2.2
  refine ⟨hlt, seek_eq (by omega) (by omega) (fun j h1 h2 => ?_) (fun _ => hc2.2)⟩
  rcases Nat.lt_or_ge j k with h | h
  · exact hno j h1 h
  · have := hc3 (j - k) (by omega)
    rw [shift_bit, show k + (j - k) = j by omega] at this
    simpa [show k % 64 + (j - k) < 64 by omega] using this
theorem seek_out {l : List Bool} {i k : Nat} (hno : ∀ j, i ≤ j → j < k → l.getD j false = false) (hz : (wordN l (k / 64)) >>> (k % 64) = 0) :
    ∀ j, i ≤ j → j < (k / 64 + 1) * 64 → l.getD j false = false := fun j h1 h2 => by
  rcases Nat.lt_or_ge j k with h | h
  · exact hno j h1 h
  · have := shift_bit l k (j - k)
    rw [hz, show k + (j - k) = j by omega, Nat.zero_testBit] at this
    simpa [show k % 64 + (j - k) < 64 by omega] using this.symm

theorem next_fn (S : Hp) (hS : Tab S) (p : Nat) (l : List Bool) (i : Nat) (hi : i ≤ l.length) : FNs S prog F_bitmap_Map_next #[.pointer (some ⟨p, 0, none⟩), iv i] [Bmp p l] (fun (_ : Unit) => iv (seek true l i)) (fun _ => True) (fun _ => [Bmp p l]) := by
  refine FNs_of_body func_bitmap_Map_next rfl ntmps_bitmap_Map_next rfl ?_
  intro R w0
  refine TN.unpack fun q hl => ?_
  refine TC_seq ?_
  refine TC_region ?_
  refine TO_puresN 1 tys_of rfl (TO_nil ?_)
  refine TC_seq ?_
  refine TC_block ?_
  -- live: t0 t1 t33 t34 t35 t36
  refine TC_loopP (fun k => i ≤ k ∧ ∀ j, i ≤ j → j < k → l.getD j false = false) (fun k => ⟨37, [], [(0, .pointer (some ⟨p, 0, none⟩)), (1, iv k)]⟩) (fun k => [cel p T_bitmap_Map [.int .i64 l.length, .slice (some ⟨q, 0, none⟩) ((l.length + 63) / 64) ((l.length + 63) / 64), .int .i64 (l.count true)], cel q T_uint64 (wordsOf l)]) (fun k => 2 * l.length + 64 - k) i ⟨Nat.le_refl _, fun j h1 h2 => by omega⟩ (Env.le_of_knows (by repeat first | exact trivial | refine ⟨rfl, ?_⟩)) ?_
  rintro k ⟨hik, hno⟩
  refine TC_seq ?_
  refine TC_seq ?_
  refine TC_region ?_
  refine TO_puresN 4 tys_of rfl (TO_cons (TOp_exact rfl (Ex_load tys_of rfl rfl rfl lies_find rfl) ?_))
  refine TO_puresN 0 tys_of rfl (TO_cons (TOp_bool tys_of rfl rfl (fun h11 => ?_) (fun h11 => ?_)))
  · -- t11 True: (Op.binOp BinOp.lss 3 (Operand.tmp 6) (Operand.tmp 10) 3)
    try simp only [decide_eq_true_eq, decide_eq_false_iff_not, beq_iff_eq, bne_iff_ne, beq_eq_false_iff_ne, bne_eq_false_iff_eq, ne_eq, Bool.not_eq_true', Bool.not_eq_false', Decidable.not_not] at h11
    refine TO_puresN 0 tys_of rfl (TO_nil ?_)
    refine TC_true rfl ?_
    refine TC_skip ?_
    refine TC_block ?_
    refine TC_seq ?_
    refine TC_seq ?_
    refine TC_region ?_
    refine TO_puresN 3 tys_of rfl (TO_cons (TOp_exact rfl (Ex_load tys_of rfl rfl rfl lies_find rfl) ?_))
    refine TO_puresN 2 tys_of rfl ?_
    rw [quo_nat k 63 (by omega)]
    have hk : k < l.length := by omega
    obtain ⟨hl1, hl2⟩ := hl
    refine TO_puresN 0 tys_of rfl (TO_cons (TOp_exact rfl (Ex_indexS (sz := 1) tys_of rfl rfl rfl rfl rfl rfl (by omega)) ?_))
    refine TO_puresN 0 tys_of rfl (TO_cons (TOp_exact rfl (Ex_load tys_of rfl rfl rfl lies_find (wordsLoad hk)) ?_))
    refine TO_puresN 2 tys_of rfl ?_
    rw [rem_nat k 63]
    refine TO_puresN 0 tys_of rfl (TO_cons (TOp_exact rfl (Ex_shr rfl rfl rfl (by omega)) ?_))
    rw [shr_u64' _ _ (by omega)]
    refine TO_puresN 1 tys_of rfl (TO_nil ?_)
    refine TC_seq ?_
    refine TC_region ?_
    refine TO_puresN 1 tys_of rfl (TO_cons (TOp_bool tys_of rfl rfl (fun h24 => ?_) (fun h24 => ?_)))
    · -- t24 True: (Op.binOp BinOp.neq 62 (Operand.tmp 23) (Operand.const (Value.int IntKind.u64 0)) 62)
      try simp only [decide_eq_true_eq, decide_eq_false_iff_not, beq_iff_eq, bne_iff_ne, beq_eq_false_iff_ne, bne_eq_false_iff_eq, ne_eq, Bool.not_eq_true', Bool.not_eq_false', Decidable.not_not] at h24
      refine TO_puresN 0 tys_of rfl (TO_nil ?_)
      refine TC_true rfl ?_
      refine TC_seq ?_
      refine TC_region ?_
      have hz : (wordN l (k / 64)) >>> (k % 64) ≠ 0 := fun hc => h24 (by rw [show k % (63 + 1) = k % 64 from rfl, hc]; rfl)
      obtain ⟨hs1, hs2⟩ := seek_in hik hno hz
      refine TO_puresN 2 tys_of rfl (TO_cons (TOp_calls rfl rfl cl_math_bits_TrailingZeros64 (ctz_fn _ hS ((wordN l (k / 64)) >>> (k % 64)) (shr_lt _ (wordN_lt _ _))) fun y27 hy27 => ?_))
      refine TO_puresN 1 tys_of rfl ?_
      rw [wrap_i64 (by omega) (by omega)]
      refine TO_puresN 1 tys_of rfl (TO_nil ?_)
      refine TC_ret ?_
      repeat (first | refine TN_thenr ?_ | refine TN_blockr ?_)
      refine TN.fold (Bmp p l) (ent_pack q ⟨hl1, hl2⟩) ?_
      refine TN_rets tys_of () (.inl rfl) rfl (rs := [.tmp 4]) rfl (vs := [_]) ⟨rfl, trivial⟩ (by rw [hs2]; rfl) trivial
    · -- t24 False: (Op.binOp BinOp.neq 62 (Operand.tmp 23) (Operand.const (Value.int IntKind.u64 0)) 62)
      try simp only [decide_eq_true_eq, decide_eq_false_iff_not, beq_iff_eq, bne_iff_ne, beq_eq_false_iff_ne, bne_eq_false_iff_eq, ne_eq, Bool.not_eq_true', Bool.not_eq_false', Decidable.not_not] at h24
      refine TO_puresN 0 tys_of rfl (TO_nil ?_)
      refine TC_false rfl ?_
      refine TC_skip ?_
      refine TC_region ?_
      refine TO_puresN 2 tys_of rfl ?_
      rw [quo_nat k 63 (by omega)]
      refine TO_puresN 1 tys_of rfl ?_
      rw [wrap_i64 (by omega) (by omega)]
      refine TO_puresN 1 tys_of rfl ?_
      rw [wrap_i64 (by omega) (by omega)]
      refine TO_puresN 1 tys_of rfl (TO_nil ?_)
      try refine TN_blockn ?_
      have hz : (wordN l (k / 64)) >>> (k % 64) = 0 := by exact_mod_cast h24
      refine TN_againP ((k / 64 + 1) * 64) ⟨by omega, seek_out hno hz⟩ (by omega) (Env.le_of_knows (by repeat first | exact trivial | refine ⟨rfl, ?_⟩))
  · -- t11 False: (Op.binOp BinOp.lss 3 (Operand.tmp 6) (Operand.tmp 10) 3)
    try simp only [decide_eq_true_eq, decide_eq_false_iff_not, beq_iff_eq, bne_iff_ne, beq_eq_false_iff_ne, bne_eq_false_iff_eq, ne_eq, Bool.not_eq_true', Bool.not_eq_false', Decidable.not_not] at h11
    refine TO_puresN 0 tys_of rfl (TO_nil ?_)
    refine TC_false rfl ?_
    refine TC_exit ?_
    repeat refine TN_thenx ?_
    refine TN_exit ?_
    refine TC_seq ?_
    refine TC_region ?_
    refine TO_puresN 3 tys_of rfl (TO_cons (TOp_exact rfl (Ex_load tys_of rfl rfl rfl lies_find rfl) ?_))
    refine TO_puresN 1 tys_of rfl (TO_nil ?_)
    refine TC_ret ?_
    repeat (first | refine TN_thenr ?_ | refine TN_blockr ?_)
    refine TN.fold (Bmp p l) (ent_pack q hl) ?_
    refine TN_rets tys_of () (.inl rfl) rfl (rs := [.tmp 4]) rfl (vs := [_]) ⟨rfl, trivial⟩ (by rw [seek_eq (s := l.length) hi (Nat.le_refl _) (fun j h1 h2 => by rw [hno j h1 (by omega)]; rfl) (fun h => by omega)]; rfl) trivial

def firstR (l : List Bool) (i : Nat) : Nat × Bool := if seek false l i < l.length then (seek false l i, true) else (0, false)
theorem off_in {l : List Bool} {i k : Nat} (hno : ∀ j, i ≤ j → j < k → j < l.length → l.getD j false = true) (hz : (2 ^ 64 - 1 - wordN l (k / 64)) >>> (k % 64) ≠ 0) :
    l.getD (k + Lib.ctz 64 ((2 ^ 64 - 1 - wordN l (k / 64)) >>> (k % 64))) false = false ∧
      ∀ j, i ≤ j → j < k + Lib.ctz 64 ((2 ^ 64 - 1 - wordN l (k / 64)) >>> (k % 64)) → j < l.length → l.getD j false = true := by
  obtain ⟨hc1, hc2, hc3⟩ := ctz_spec hz (shr_lt _ (by omega))
  generalize Lib.ctz 64 ((2 ^ 64 - 1 - wordN l (k / 64)) >>> (k % 64)) = t at *
  rw [shift_off] at hc2
  simp only [Bool.and_eq_true, decide_eq_true_eq, Bool.not_eq_true'] at hc2
  refine ⟨hc2.2, fun j h1 h2 h3 => ?_⟩
  rcases Nat.lt_or_ge j k with h | h
  · exact hno j h1 h h3
  · have := hc3 (j - k) (by omega)
    rw [shift_off, show k + (j - k) = j by omega] at this
    simpa [show k % 64 + (j - k) < 64 by omega] using this
theorem off_out {l : List Bool} {i k : Nat} (hno : ∀ j, i ≤ j → j < k → j < l.length → l.getD j false = true) (hz : (2 ^ 64 - 1 - wordN l (k / 64)) >>> (k % 64) = 0) :
    ∀ j, i ≤ j → j < (k / 64 + 1) * 64 → j < l.length → l.getD j false = true := fun j h1 h2 h3 => by
  rcases Nat.lt_or_ge j k with h | h
  · exact hno j h1 h h3
  · have := shift_off l k (j - k)
    rw [hz, show k + (j - k) = j by omega, Nat.zero_testBit] at this
    simpa [show k % 64 + (j - k) < 64 by omega] using this.symm
theorem firstR_some {l : List Bool} {i s : Nat} (h1 : i ≤ s) (h2 : s < l.length) (h3 : ∀ j, i ≤ j → j < s → j < l.length → l.getD j false = true) (h4 : l.getD s false = false) : firstR l i = (s, true) := by
  have : seek false l i = s := seek_eq h1 (by omega) (fun j a b => h3 j a b (by omega)) (fun _ => h4)
  unfold firstR
  rw [this, if_pos h2]
theorem firstR_none {l : List Bool} {i : Nat} (h3 : ∀ j, i ≤ j → j < l.length → l.getD j false = true) : firstR l i = (0, false) := by
  unfold firstR
  rw [if_neg]
  rcases Nat.lt_or_ge l.length i with h | h
  · have : i ≤ seek false l i := Nat.le_add_right _ _
    omega
  · rw [seek_eq (v := false) (s := l.length) h (Nat.le_refl _) (fun j a b => h3 j a b) (fun h => by omega)]
    omega

theorem first_fn (S : Hp) (hS : Tab S) (p : Nat) (l : List Bool) (i : Nat) (hi : i < 2 ^ 62) : FNs S prog F_bitmap_Map_First #[.pointer (some ⟨p, 0, none⟩), iv i] [Bmp p l] (fun (_ : Unit) => .tuple #[iv (firstR l i).1, .bool (firstR l i).2]) (fun _ => True) (fun _ => [Bmp p l]) := by
  refine FNs_of_body func_bitmap_Map_First rfl ntmps_bitmap_Map_First rfl ?_
  intro R w0
  refine TC_seq ?_
  refine TC_region ?_
  refine TO_puresN 2 tys_of rfl (TO_nil ?_)
  refine TC_seq ?_
  refine TC_region ?_
  refine TO_puresN 2 tys_of rfl ?_
  rw [show (if (0 : Int) > (i : Int) then (0 : Int) else (i : Int)) = (i : Int) by rw [if_neg (by omega)]]
  refine TO_puresN 1 tys_of rfl (TO_nil ?_)
  refine TC_seq ?_
  refine TC_block ?_
  -- live: t0 t1 t7 t8 t35 t36 t37 t38 t39
  refine TC_loopP (fun k => i ≤ k ∧ k < 2 ^ 62 + 64 ∧ ∀ j, i ≤ j → j < k → j < l.length → l.getD j false = true) (fun k => ⟨40, [], [(0, .pointer (some ⟨p, 0, none⟩)), (1, iv k)]⟩) (fun k => [Bmp p l]) (fun k => 2 * l.length + 64 - k) i ⟨Nat.le_refl _, by omega, fun j h1 h2 => by omega⟩ (Env.le_of_knows (by repeat first | exact trivial | refine ⟨rfl, ?_⟩)) ?_
  rintro k ⟨hik, hkb, hno⟩
  refine TC_seq ?_
  refine TC_seq ?_
  refine TC_region ?_
  refine TO_puresN 2 tys_of rfl (TO_cons (TOp_calls rfl rfl cl_bitmap_Map_Len (len_fn _ p l) fun y11 hy11 => ?_))
  refine TO_puresN 0 tys_of rfl (TO_cons (TOp_bool tys_of rfl rfl (fun h12 => ?_) (fun h12 => ?_)))
  · -- t12 True: (Op.binOp BinOp.lss 3 (Operand.tmp 9) (Operand.tmp 11) 3)
    try simp only [decide_eq_true_eq, decide_eq_false_iff_not, beq_iff_eq, bne_iff_ne, beq_eq_false_iff_ne, bne_eq_false_iff_eq, ne_eq, Bool.not_eq_true', Bool.not_eq_false', Decidable.not_not] at h12
    have hk : k < l.length := by omega
    refine TN.unpack fun q hl => ?_
    obtain ⟨hl1, hl2⟩ := hl
    refine TO_puresN 0 tys_of rfl (TO_nil ?_)
    refine TC_true rfl ?_
    refine TC_skip ?_
    refine TC_block ?_
    refine TC_seq ?_
    refine TC_seq ?_
    refine TC_region ?_
    refine TO_puresN 3 tys_of rfl (TO_cons (TOp_exact rfl (Ex_load tys_of rfl rfl rfl lies_find rfl) ?_))
    refine TO_puresN 2 tys_of rfl ?_
    rw [quo_nat k 63 (by omega)]
    refine TO_puresN 0 tys_of rfl (TO_cons (TOp_exact rfl (Ex_indexS (sz := 1) tys_of rfl rfl rfl rfl rfl rfl (by omega)) ?_))
    refine TO_puresN 0 tys_of rfl (TO_cons (TOp_exact rfl (Ex_load tys_of rfl rfl rfl lies_find (wordsLoad hk)) ?_))
    refine TO_puresN 1 tys_of rfl ?_
    rw [not_u64 _ (wordN_lt _ _)]
    refine TO_puresN 2 tys_of rfl ?_
    rw [rem_nat k 63]
    refine TO_puresN 0 tys_of rfl (TO_cons (TOp_exact rfl (Ex_shr rfl rfl rfl (by omega)) ?_))
    rw [shr_u64' _ _ (by omega)]
    refine TO_puresN 1 tys_of rfl (TO_nil ?_)
    refine TC_seq ?_
    refine TC_region ?_
    refine TO_puresN 1 tys_of rfl (TO_cons (TOp_bool tys_of rfl rfl (fun h26 => ?_) (fun h26 => ?_)))
    · -- t26 True: (Op.binOp BinOp.neq 62 (Operand.tmp 25) (Operand.const (Value.int IntKind.u64 0)) 62)
      try simp only [decide_eq_true_eq, decide_eq_false_iff_not, beq_iff_eq, bne_iff_ne, beq_eq_false_iff_ne, bne_eq_false_iff_eq, ne_eq, Bool.not_eq_true', Bool.not_eq_false', Decidable.not_not] at h26
      refine TO_puresN 0 tys_of rfl (TO_nil ?_)
      refine TC_true rfl ?_
      refine TC_seq ?_
      refine TC_region ?_
      have hz : (2 ^ 64 - 1 - wordN l (k / 64)) >>> (k % 64) ≠ 0 := fun hc => h26 (by rw [show k % (63 + 1) = k % 64 from rfl, hc]; rfl)
      obtain ⟨hs1, hs2⟩ := off_in hno hz
      have hcb := (ctz_spec hz (shr_lt _ (by omega))).1
      refine TO_puresN 2 tys_of rfl (TO_cons (TOp_calls rfl rfl cl_math_bits_TrailingZeros64 (ctz_fn _ hS ((2 ^ 64 - 1 - wordN l (k / 64)) >>> (k % 64)) (shr_lt _ (by omega))) fun y29 hy29 => ?_))
      refine TO_puresN 1 tys_of rfl ?_
      rw [wrap_i64 (by omega) (by omega)]
      refine TO_puresN 1 tys_of rfl (TO_nil ?_)
      refine TC_exit ?_
      repeat refine TN_thenx ?_
      refine TN_exitx (by decide) ?_
      repeat refine TN_thenx ?_
      refine TN_exit ?_
      refine TC_seq ?_
      refine TC_seq ?_
      refine TC_region ?_
      refine TN.fold (Bmp p l) (ent_pack q ⟨hl1, hl2⟩) ?_
      refine TO_puresN 2 tys_of rfl (TO_cons (TOp_calls rfl rfl cl_bitmap_Map_Len (len_fn _ p l) fun y37 hy37 => ?_))
      refine TO_puresN 0 tys_of rfl (TO_cons (TOp_bool tys_of rfl rfl (fun h38 => ?_) (fun h38 => ?_)))
      · -- t38 True: (Op.binOp BinOp.geq 3 (Operand.tmp 35) (Operand.tmp 37) 3)
        try simp only [decide_eq_true_eq, decide_eq_false_iff_not, beq_iff_eq, bne_iff_ne, beq_eq_false_iff_ne, bne_eq_false_iff_eq, ne_eq, Bool.not_eq_true', Bool.not_eq_false', Decidable.not_not] at h38
        refine TO_puresN 0 tys_of rfl (TO_nil ?_)
        refine TC_true rfl ?_
        refine TC_seq ?_
        refine TC_region ?_
        refine TO_puresN 2 tys_of rfl (TO_nil ?_)
        refine TC_ret ?_
        repeat (first | refine TN_thenr ?_ | refine TN_blockr ?_)
        refine TN_rets tys_of () (.inl rfl) rfl (rs := [.tmp 4, .tmp 5]) rfl (vs := [_, _]) ⟨rfl, rfl, trivial⟩ (by rw [firstR_none fun j a b => hs2 j a (by omega) b]; rfl) trivial
      · -- t38 False: (Op.binOp BinOp.geq 3 (Operand.tmp 35) (Operand.tmp 37) 3)
        try simp only [decide_eq_true_eq, decide_eq_false_iff_not, beq_iff_eq, bne_iff_ne, beq_eq_false_iff_ne, bne_eq_false_iff_eq, ne_eq, Bool.not_eq_true', Bool.not_eq_false', Decidable.not_not] at h38
        refine TO_puresN 0 tys_of rfl (TO_nil ?_)
        refine TC_false rfl ?_
        refine TC_skip ?_
        refine TC_seq ?_
        refine TC_region ?_
        refine TO_puresN 3 tys_of rfl (TO_nil ?_)
        refine TC_ret ?_
        repeat (first | refine TN_thenr ?_ | refine TN_blockr ?_)
        refine TN_rets tys_of () (.inl rfl) rfl (rs := [.tmp 4, .tmp 5]) rfl (vs := [_, _]) ⟨rfl, rfl, trivial⟩ (by rw [firstR_some (by omega) (by omega) hs2 hs1]; rfl) trivial
    · -- t26 False: (Op.binOp BinOp.neq 62 (Operand.tmp 25) (Operand.const (Value.int IntKind.u64 0)) 62)
      try simp only [decide_eq_true_eq, decide_eq_false_iff_not, beq_iff_eq, bne_iff_ne, beq_eq_false_iff_ne, bne_eq_false_iff_eq, ne_eq, Bool.not_eq_true', Bool.not_eq_false', Decidable.not_not] at h26
      refine TO_puresN 0 tys_of rfl (TO_nil ?_)
      refine TC_false rfl ?_
      refine TC_skip ?_
      refine TC_region ?_
      refine TO_puresN 2 tys_of rfl ?_
      rw [quo_nat k 63 (by omega)]
      refine TO_puresN 1 tys_of rfl ?_
      rw [wrap_i64 (by omega) (by omega)]
      refine TO_puresN 1 tys_of rfl ?_
      rw [wrap_i64 (by omega) (by omega)]
      refine TO_puresN 1 tys_of rfl (TO_nil ?_)
      try refine TN_blockn ?_
      have hz : (2 ^ 64 - 1 - wordN l (k / 64)) >>> (k % 64) = 0 := by exact_mod_cast h26
      refine TN.fold (Bmp p l) (ent_pack q ⟨hl1, hl2⟩) ?_
      refine TN_againP ((k / 64 + 1) * 64) ⟨by omega, by omega, off_out hno hz⟩ (by omega) (Env.le_of_knows (by repeat first | exact trivial | refine ⟨rfl, ?_⟩))
  · -- t12 False: (Op.binOp BinOp.lss 3 (Operand.tmp 9) (Operand.tmp 11) 3)
    try simp only [decide_eq_true_eq, decide_eq_false_iff_not, beq_iff_eq, bne_iff_ne, beq_eq_false_iff_ne, bne_eq_false_iff_eq, ne_eq, Bool.not_eq_true', Bool.not_eq_false', Decidable.not_not] at h12
    refine TO_puresN 0 tys_of rfl (TO_nil ?_)
    refine TC_false rfl ?_
    refine TC_exit ?_
    repeat refine TN_thenx ?_
    refine TN_exit ?_
    refine TC_seq ?_
    refine TC_seq ?_
    refine TC_region ?_
    refine TO_puresN 2 tys_of rfl (TO_cons (TOp_calls rfl rfl cl_bitmap_Map_Len (len_fn _ p l) fun y37 hy37 => ?_))
    refine TO_puresN 0 tys_of rfl (TO_cons (TOp_bool tys_of rfl rfl (fun h38 => ?_) (fun h38 => ?_)))
    · -- t38 True: (Op.binOp BinOp.geq 3 (Operand.tmp 35) (Operand.tmp 37) 3)
      try simp only [decide_eq_true_eq, decide_eq_false_iff_not, beq_iff_eq, bne_iff_ne, beq_eq_false_iff_ne, bne_eq_false_iff_eq, ne_eq, Bool.not_eq_true', Bool.not_eq_false', Decidable.not_not] at h38
      refine TO_puresN 0 tys_of rfl (TO_nil ?_)
      refine TC_true rfl ?_
      refine TC_seq ?_
      refine TC_region ?_
      refine TO_puresN 2 tys_of rfl (TO_nil ?_)
      refine TC_ret ?_
      repeat (first | refine TN_thenr ?_ | refine TN_blockr ?_)
      refine TN_rets tys_of () (.inl rfl) rfl (rs := [.tmp 4, .tmp 5]) rfl (vs := [_, _]) ⟨rfl, rfl, trivial⟩ (by rw [firstR_none fun j a b => hno j a (by omega) b]; rfl) trivial
    · -- t38 False: (Op.binOp BinOp.geq 3 (Operand.tmp 35) (Operand.tmp 37) 3)
      try simp only [decide_eq_true_eq, decide_eq_false_iff_not, beq_iff_eq, bne_iff_ne, beq_eq_false_iff_ne, bne_eq_false_iff_eq, ne_eq, Bool.not_eq_true', Bool.not_eq_false', Decidable.not_not] at h38
      refine TO_puresN 0 tys_of rfl (TO_nil ?_)
      refine TC_false rfl ?_
      refine TC_skip ?_
      refine TC_seq ?_
      refine TC_region ?_
      refine TO_puresN 3 tys_of rfl (TO_nil ?_)
      refine TC_ret ?_
      repeat (first | refine TN_thenr ?_ | refine TN_blockr ?_)
      exfalso; omega

/-! ### The first of so many in a row -/
def runF : Nat → List Bool → Int → Nat → Option Nat
  | 0, _, _, _ => none
  | f + 1, l, n, k => if seek false l k < l.length then (if n ≤ (seek true l (seek false l k) : Int) - (seek false l k : Int) then some (seek false l k) else runF f l n (seek true l (seek false l k))) else none
def runR (l : List Bool) (n : Int) : Int × Bool := if n < 1 then (0, false) else match runF (l.length + 1) l n 0 with
  | some s => ((s : Int), true)
  | none => (0, false)
theorem takeWhile_end {p : Bool → Bool} : ∀ (l : List Bool), (l.takeWhile p).length < l.length → p (l.getD (l.takeWhile p).length false) = false
  | [], h => by simp at h
  | a :: l, h => by
    simp only [List.takeWhile_cons] at h ⊢
    split
    · rename_i ha
      rw [if_pos ha] at h
      simpa using takeWhile_end l (by simpa using h)
    · rename_i ha; simpa using ha
theorem seek_le {v : Bool} {l : List Bool} {i : Nat} (hi : i ≤ l.length) : seek v l i ≤ l.length := by
  unfold seek
  have := (List.takeWhile_sublist (l := l.drop i) (· != v)).length_le
  simp at this
  omega
theorem seek_ge (v : Bool) (l : List Bool) (i : Nat) : i ≤ seek v l i := Nat.le_add_right _ _
theorem seek_at {v : Bool} {l : List Bool} {i : Nat} (h : seek v l i < l.length) : l.getD (seek v l i) false = v := by
  unfold seek at *
  have := takeWhile_end (p := (· != v)) (l.drop i) (by simp; omega)
  simp only [List.getD, List.getElem?_drop] at this ⊢
  cases v <;> simp_all
theorem seek_grow {l : List Bool} {k : Nat} (h : seek false l k < l.length) : seek false l k < seek true l (seek false l k) := by
  rcases Nat.lt_or_ge (seek false l k) (seek true l (seek false l k)) with h1 | h1
  · exact h1
  · have h2 := seek_ge true l (seek false l k)
    have h3 : seek true l (seek false l k) = seek false l k := Nat.le_antisymm h1 h2
    have h4 := seek_at h
    have h5 := seek_at (v := true) (l := l) (i := seek false l k) (by rw [h3]; exact h)
    rw [h3, h4] at h5
    cases h5

theorem runF_step {f : Nat} {l : List Bool} {n : Int} {k : Nat} (h : seek false l k < l.length) : runF (f + 1) l n k = if n ≤ (seek true l (seek false l k) : Int) - (seek false l k : Int) then some (seek false l k) else runF f l n (seek true l (seek false l k)) := if_pos h
theorem runF_stop {f : Nat} {l : List Bool} {n : Int} {k : Nat} (h : ¬ seek false l k < l.length) : runF (f + 1) l n k = none := if_neg h
theorem run_fn (S : Hp) (hS : Tab S) (p : Nat) (l : List Bool) (hll : l.length < 2 ^ 62) (n : Int) : FNs S prog F_bitmap_Map_Run #[.pointer (some ⟨p, 0, none⟩), iv n] [Bmp p l] (fun (_ : Unit) => .tuple #[iv (runR l n).1, .bool (runR l n).2]) (fun _ => True) (fun _ => [Bmp p l]) := by
  refine FNs_of_body func_bitmap_Map_Run rfl ntmps_bitmap_Map_Run rfl ?_
  intro R w0
  refine TC_seq ?_
  refine TC_region ?_
  refine TO_puresN 2 tys_of rfl (TO_nil ?_)
  refine TC_seq ?_
  refine TC_seq ?_
  refine TC_region ?_
  refine TO_puresN 1 tys_of rfl (TO_cons (TOp_bool tys_of rfl rfl (fun h10 => ?_) (fun h10 => ?_)))
  · -- t10 True: (Op.binOp BinOp.lss 3 (Operand.tmp 9) (Operand.const (Value.int IntKind.i64 1)) 3)
    try simp only [decide_eq_true_eq, decide_eq_false_iff_not, beq_iff_eq, bne_iff_ne, beq_eq_false_iff_ne, bne_eq_false_iff_eq, ne_eq, Bool.not_eq_true', Bool.not_eq_false', Decidable.not_not] at h10
    refine TO_puresN 0 tys_of rfl (TO_nil ?_)
    refine TC_true rfl ?_
    refine TC_seq ?_
    refine TC_region ?_
    refine TO_puresN 2 tys_of rfl (TO_nil ?_)
    refine TC_ret ?_
    repeat (first | refine TN_thenr ?_ | refine TN_blockr ?_)
    refine TN_rets tys_of () (.inl rfl) rfl (rs := [.tmp 4, .tmp 5]) rfl (vs := [_, _]) ⟨rfl, rfl, trivial⟩ (by rw [show runR l n = (0, false) from if_pos (by omega)]; rfl) trivial
  · -- t10 False: (Op.binOp BinOp.lss 3 (Operand.tmp 9) (Operand.const (Value.int IntKind.i64 1)) 3)
    try simp only [decide_eq_true_eq, decide_eq_false_iff_not, beq_iff_eq, bne_iff_ne, beq_eq_false_iff_ne, bne_eq_false_iff_eq, ne_eq, Bool.not_eq_true', Bool.not_eq_false', Decidable.not_not] at h10
    refine TO_puresN 0 tys_of rfl (TO_nil ?_)
    refine TC_false rfl ?_
    refine TC_skip ?_
    refine TC_seq ?_
    refine TC_region ?_
    refine TO_puresN 1 tys_of rfl (TO_cons (TOp_calls rfl rfl cl_bitmap_Map_First (first_fn _ hS p l 0 (by omega)) fun y13 hy13 => ?_))
    refine TO_puresN 5 tys_of rfl (TO_nil ?_)
    refine TC_seq ?_
    refine TC_block ?_
    -- live: t0 t1 t6 t7 t9 t10 t11 t12 t13 t14 t15
    refine TC_loopP (fun x : Nat × Nat => x.1 ≤ l.length ∧ l.length < x.1 + x.2 ∧ runF (l.length + 1) l n 0 = runF x.2 l n x.1) (fun x : Nat × Nat => ⟨32, [], [(0, .pointer (some ⟨p, 0, none⟩)), (1, iv n), (6, iv (firstR l x.1).1), (7, .bool (firstR l x.1).2)]⟩) (fun x : Nat × Nat => [Bmp p l]) (fun x : Nat × Nat => l.length - x.1) (0, l.length + 1) ⟨Nat.zero_le _, by omega, rfl⟩ (Env.le_of_knows (by repeat first | exact trivial | refine ⟨rfl, ?_⟩)) ?_
    rintro ⟨k, f⟩ ⟨hk, hf, hrun⟩
    dsimp only at *
    refine TC_seq ?_
    refine TC_seq ?_
    refine TC_region ?_
    refine TO_puresN 0 tys_of rfl (TO_cons (TOp_bool tys_of rfl rfl (fun h16 => ?_) (fun h16 => ?_)))
    · -- t16 True: (Op.move (Operand.tmp 7))
      try simp only [decide_eq_true_eq, decide_eq_false_iff_not, beq_iff_eq, bne_iff_ne, beq_eq_false_iff_ne, bne_eq_false_iff_eq, ne_eq, Bool.not_eq_true', Bool.not_eq_false', Decidable.not_not] at h16
      have hsk : seek false l k < l.length := by unfold firstR at h16; split at h16; assumption; cases h16
      have hfr : firstR l k = (seek false l k, true) := if_pos hsk
      rw [hfr]
      have hg := seek_grow hsk
      have hle := seek_le (v := true) (Nat.le_of_lt hsk)
      obtain ⟨f, rfl⟩ : ∃ g, f = g + 1 := ⟨f - 1, by omega⟩
      rw [runF_step hsk] at hrun
      refine TO_puresN 0 tys_of rfl (TO_nil ?_)
      refine TC_true rfl ?_
      refine TC_skip ?_
      refine TC_block ?_
      refine TC_seq ?_
      refine TC_region ?_
      refine TO_puresN 2 tys_of rfl (TO_cons (TOp_calls rfl rfl cl_bitmap_Map_next (next_fn _ hS p l (seek false l k) (Nat.le_of_lt hsk)) fun y19 hy19 => ?_))
      refine TO_puresN 1 tys_of rfl (TO_nil ?_)
      refine TC_seq ?_
      refine TC_seq ?_
      refine TC_region ?_
      refine TO_puresN 3 tys_of rfl ?_
      rw [wrap_i64 (by omega) (by omega)]
      refine TO_puresN 1 tys_of rfl (TO_cons (TOp_bool tys_of rfl rfl (fun h24 => ?_) (fun h24 => ?_)))
      · -- t24 True: (Op.binOp BinOp.geq 3 (Operand.tmp 22) (Operand.tmp 23) 3)
        try simp only [decide_eq_true_eq, decide_eq_false_iff_not, beq_iff_eq, bne_iff_ne, beq_eq_false_iff_ne, bne_eq_false_iff_eq, ne_eq, Bool.not_eq_true', Bool.not_eq_false', Decidable.not_not] at h24
        refine TO_puresN 0 tys_of rfl (TO_nil ?_)
        refine TC_true rfl ?_
        refine TC_seq ?_
        refine TC_region ?_
        refine TO_puresN 3 tys_of rfl (TO_nil ?_)
        refine TC_ret ?_
        repeat (first | refine TN_thenr ?_ | refine TN_blockr ?_)
        rw [if_pos (by omega)] at hrun
        refine TN_rets tys_of () (.inl rfl) rfl (rs := [.tmp 4, .tmp 5]) rfl (vs := [_, _]) ⟨rfl, rfl, trivial⟩ (by unfold runR; rw [if_neg (by omega), hrun]; rfl) trivial
      · -- t24 False: (Op.binOp BinOp.geq 3 (Operand.tmp 22) (Operand.tmp 23) 3)
        try simp only [decide_eq_true_eq, decide_eq_false_iff_not, beq_iff_eq, bne_iff_ne, beq_eq_false_iff_ne, bne_eq_false_iff_eq, ne_eq, Bool.not_eq_true', Bool.not_eq_false', Decidable.not_not] at h24
        refine TO_puresN 0 tys_of rfl (TO_nil ?_)
        refine TC_false rfl ?_
        refine TC_skip ?_
        refine TC_region ?_
        rw [if_neg (by omega)] at hrun
        refine TO_puresN 2 tys_of rfl (TO_cons (TOp_calls rfl rfl cl_bitmap_Map_First (first_fn _ hS p l (seek true l (seek false l k)) (by omega)) fun y29 hy29 => ?_))
        refine TO_puresN 5 tys_of rfl (TO_nil ?_)
        try refine TN_blockn ?_
        have hkk := seek_ge false l k
        refine TN_againP (x := (k, f + 1)) (seek true l (seek false l k), f) ⟨by omega, by omega, hrun⟩ (by show l.length - _ < l.length - k; omega) (Env.le_of_knows (by repeat first | exact trivial | refine ⟨rfl, ?_⟩))
    · -- t16 False: (Op.move (Operand.tmp 7))
      try simp only [decide_eq_true_eq, decide_eq_false_iff_not, beq_iff_eq, bne_iff_ne, beq_eq_false_iff_ne, bne_eq_false_iff_eq, ne_eq, Bool.not_eq_true', Bool.not_eq_false', Decidable.not_not] at h16
      refine TO_puresN 0 tys_of rfl (TO_nil ?_)
      refine TC_false rfl ?_
      refine TC_exit ?_
      repeat refine TN_thenx ?_
      refine TN_exit ?_
      refine TC_seq ?_
      refine TC_region ?_
      refine TO_puresN 2 tys_of rfl (TO_nil ?_)
      refine TC_ret ?_
      repeat (first | refine TN_thenr ?_ | refine TN_blockr ?_)
      have hsk : ¬ seek false l k < l.length := fun hc => by rw [show firstR l k = (seek false l k, true) from if_pos hc] at h16; cases h16
      obtain ⟨f, rfl⟩ : ∃ g, f = g + 1 := ⟨f - 1, by omega⟩
      rw [runF_stop hsk] at hrun
      refine TN_rets tys_of () (.inl rfl) rfl (rs := [.tmp 4, .tmp 5]) rfl (vs := [_, _]) ⟨rfl, rfl, trivial⟩ (by unfold runR; rw [if_neg (by omega), hrun]; rfl) trivial

/-! ### Some are turned -/
def fillB (l : List Bool) (a : Nat) (on : Bool) : Nat → List Bool
  | 0 => l
  | k + 1 => (fillB l a on k).set (a + k) on
theorem fillB_len (l : List Bool) (a : Nat) (on : Bool) : ∀ k, (fillB l a on k).length = l.length
  | 0 => rfl
  | k + 1 => by simp [fillB, fillB_len l a on k]
def fillOK (l : List Bool) (a n : Int) : Bool := decide (0 ≤ n) && decide (0 ≤ a) && decide (a ≤ l.length) && decide (n ≤ l.length - a)
def fillE (l : List Bool) (a n : Int) : Int := if fillOK l a n then 0 else 3
def fillL (l : List Bool) (a n : Int) (on : Bool) : List Bool := if fillOK l a n then fillB l a.toNat on n.toNat else l

theorem fill_fn (S : Hp) (p : Nat) (l : List Bool) (hll : l.length < 2 ^ 62) (a n : Int) (on : Bool) : FNs S prog F_bitmap_Map_Fill #[.pointer (some ⟨p, 0, none⟩), iv a, iv n, .bool on] [Bmp p l] (fun (_ : Unit) => iv (fillE l a n)) (fun _ => True) (fun _ => [Bmp p (fillL l a n on)]) := by
  refine FNs_of_body func_bitmap_Map_Fill rfl ntmps_bitmap_Map_Fill rfl ?_
  intro R w0
  refine TN.unpack fun q hl => ?_
  refine TC_seq ?_
  refine TC_region ?_
  refine TO_puresN 1 tys_of rfl (TO_nil ?_)
  refine TC_seq ?_
  refine TC_block ?_
  refine TC_seq ?_
  refine TC_region ?_
  refine TO_puresN 3 tys_of rfl (TO_nil ?_)
  refine TC_false rfl ?_
  refine TC_seq ?_
  refine TC_region ?_
  refine TO_puresN 1 tys_of rfl (TO_cons (TOp_bool tys_of rfl rfl (fun h15 => ?_) (fun h15 => ?_)))
  · -- t15 True: (Op.binOp BinOp.lss 3 (Operand.tmp 14) (Operand.const (Value.int IntKind.i64 0)) 3)
    try simp only [decide_eq_true_eq, decide_eq_false_iff_not, beq_iff_eq, bne_iff_ne, beq_eq_false_iff_ne, bne_eq_false_iff_eq, ne_eq, Bool.not_eq_true', Bool.not_eq_false', Decidable.not_not] at h15
    refine TO_puresN 23 tys_of rfl (TO_nil ?_)
    refine TC_true rfl ?_
    refine TC_seq ?_
    refine TC_region ?_
    refine TO_puresN 1 tys_of rfl (TO_nil ?_)
    refine TC_ret ?_
    repeat (first | refine TN_thenr ?_ | refine TN_blockr ?_)
    have hok : fillOK l a n = false := by simp [fillOK]; omega
    rw [show fillE l a n = 3 by unfold fillE; rw [hok]; rfl, show fillL l a n on = l by unfold fillL; rw [hok]; rfl]
    refine TN.fold (Bmp p l) (ent_pack q hl) ?_
    refine TN_rets tys_of () (.inl rfl) rfl (rs := [.tmp 8]) rfl (vs := [_]) ⟨rfl, trivial⟩ rfl trivial
  · -- t15 False: (Op.binOp BinOp.lss 3 (Operand.tmp 14) (Operand.const (Value.int IntKind.i64 0)) 3)
    try simp only [decide_eq_true_eq, decide_eq_false_iff_not, beq_iff_eq, bne_iff_ne, beq_eq_false_iff_ne, bne_eq_false_iff_eq, ne_eq, Bool.not_eq_true', Bool.not_eq_false', Decidable.not_not] at h15
    refine TO_puresN 2 tys_of rfl (TO_cons (TOp_bool tys_of rfl rfl (fun h18 => ?_) (fun h18 => ?_)))
    · -- t18 True: (Op.binOp BinOp.lss 3 (Operand.tmp 17) (Operand.const (Value.int IntKind.i64 0)) 3)
      try simp only [decide_eq_true_eq, decide_eq_false_iff_not, beq_iff_eq, bne_iff_ne, beq_eq_false_iff_ne, bne_eq_false_iff_eq, ne_eq, Bool.not_eq_true', Bool.not_eq_false', Decidable.not_not] at h18
      refine TO_puresN 20 tys_of rfl (TO_nil ?_)
      refine TC_true rfl ?_
      refine TC_seq ?_
      refine TC_region ?_
      refine TO_puresN 1 tys_of rfl (TO_nil ?_)
      refine TC_ret ?_
      repeat (first | refine TN_thenr ?_ | refine TN_blockr ?_)
      have hok : fillOK l a n = false := by simp [fillOK]; omega
      rw [show fillE l a n = 3 by unfold fillE; rw [hok]; rfl, show fillL l a n on = l by unfold fillL; rw [hok]; rfl]
      refine TN.fold (Bmp p l) (ent_pack q hl) ?_
      refine TN_rets tys_of () (.inl rfl) rfl (rs := [.tmp 8]) rfl (vs := [_]) ⟨rfl, trivial⟩ rfl trivial
    · -- t18 False: (Op.binOp BinOp.lss 3 (Operand.tmp 17) (Operand.const (Value.int IntKind.i64 0)) 3)
      try simp only [decide_eq_true_eq, decide_eq_false_iff_not, beq_iff_eq, bne_iff_ne, beq_eq_false_iff_ne, bne_eq_false_iff_eq, ne_eq, Bool.not_eq_true', Bool.not_eq_false', Decidable.not_not] at h18
      refine TO_puresN 6 tys_of rfl (TO_cons (TOp_exact rfl (Ex_load tys_of rfl rfl rfl lies_find rfl) ?_))
      refine TO_puresN 0 tys_of rfl (TO_cons (TOp_bool tys_of rfl rfl (fun h26 => ?_) (fun h26 => ?_)))
      · -- t26 True: (Op.binOp BinOp.gtr 3 (Operand.tmp 21) (Operand.tmp 25) 3)
        try simp only [decide_eq_true_eq, decide_eq_false_iff_not, beq_iff_eq, bne_iff_ne, beq_eq_false_iff_ne, bne_eq_false_iff_eq, ne_eq, Bool.not_eq_true', Bool.not_eq_false', Decidable.not_not] at h26
        refine TO_puresN 12 tys_of rfl (TO_nil ?_)
        refine TC_true rfl ?_
        refine TC_seq ?_
        refine TC_region ?_
        refine TO_puresN 1 tys_of rfl (TO_nil ?_)
        refine TC_ret ?_
        repeat (first | refine TN_thenr ?_ | refine TN_blockr ?_)
        have hok : fillOK l a n = false := by simp [fillOK]; omega
        rw [show fillE l a n = 3 by unfold fillE; rw [hok]; rfl, show fillL l a n on = l by unfold fillL; rw [hok]; rfl]
        refine TN.fold (Bmp p l) (ent_pack q hl) ?_
        refine TN_rets tys_of () (.inl rfl) rfl (rs := [.tmp 8]) rfl (vs := [_]) ⟨rfl, trivial⟩ rfl trivial
      · -- t26 False: (Op.binOp BinOp.gtr 3 (Operand.tmp 21) (Operand.tmp 25) 3)
        try simp only [decide_eq_true_eq, decide_eq_false_iff_not, beq_iff_eq, bne_iff_ne, beq_eq_false_iff_ne, bne_eq_false_iff_eq, ne_eq, Bool.not_eq_true', Bool.not_eq_false', Decidable.not_not] at h26
        have h18' : 0 ≤ a := by omega
        have h15' : 0 ≤ n := by omega
        refine TO_puresN 6 tys_of rfl (TO_cons (TOp_exact rfl (Ex_load tys_of rfl rfl rfl lies_find rfl) ?_))
        refine TO_puresN 2 tys_of rfl ?_
        rw [wrap_i64 (by omega) (by omega)]
        refine TO_puresN 0 tys_of rfl (TO_cons (TOp_bool tys_of rfl rfl (fun h36 => ?_) (fun h36 => ?_)))
        · -- t36 True: (Op.binOp BinOp.gtr 3 (Operand.tmp 29) (Operand.tmp 35) 3)
          try simp only [decide_eq_true_eq, decide_eq_false_iff_not, beq_iff_eq, bne_iff_ne, beq_eq_false_iff_ne, bne_eq_false_iff_eq, ne_eq, Bool.not_eq_true', Bool.not_eq_false', Decidable.not_not] at h36
          refine TO_puresN 2 tys_of rfl (TO_nil ?_)
          refine TC_true rfl ?_
          refine TC_seq ?_
          refine TC_region ?_
          refine TO_puresN 1 tys_of rfl (TO_nil ?_)
          refine TC_ret ?_
          repeat (first | refine TN_thenr ?_ | refine TN_blockr ?_)
          have hok : fillOK l a n = false := by simp [fillOK]; omega
          rw [show fillE l a n = 3 by unfold fillE; rw [hok]; rfl, show fillL l a n on = l by unfold fillL; rw [hok]; rfl]
          refine TN.fold (Bmp p l) (ent_pack q hl) ?_
          refine TN_rets tys_of () (.inl rfl) rfl (rs := [.tmp 8]) rfl (vs := [_]) ⟨rfl, trivial⟩ rfl trivial
        · -- t36 False: (Op.binOp BinOp.gtr 3 (Operand.tmp 29) (Operand.tmp 35) 3)
          try simp only [decide_eq_true_eq, decide_eq_false_iff_not, beq_iff_eq, bne_iff_ne, beq_eq_false_iff_ne, bne_eq_false_iff_eq, ne_eq, Bool.not_eq_true', Bool.not_eq_false', Decidable.not_not] at h36
          have hok : fillOK l a n = true := by simp [fillOK]; omega
          rw [show fillE l a n = 0 from if_pos hok, show fillL l a n on = fillB l a.toNat on n.toNat from if_pos hok]
          obtain ⟨a, rfl⟩ : ∃ m : Nat, a = (m : Int) := ⟨a.toNat, by omega⟩
          obtain ⟨n, rfl⟩ : ∃ m : Nat, n = (m : Int) := ⟨n.toNat, by omega⟩
          simp only [Int.toNat_natCast]
          refine TN.fold (Bmp p (fillB l a on 0)) (show Ent _ (Bmp p l) from ent_pack q hl) ?_
          refine TO_puresN 2 tys_of rfl (TO_nil ?_)
          refine TC_false rfl ?_
          refine TC_skip ?_
          try refine TN_blockn ?_
          refine TC_seq ?_
          refine TC_seq ?_
          refine TC_region ?_
          refine TO_puresN 2 tys_of rfl (TO_nil ?_)
          refine TC_block ?_
          -- live: t0 t1 t2 t3 t9 t10 t11 t12 t13 t14 t15 t16 t17 t18 t19 t20 t21 t22 t23 t24 t25 t26 t27 t28 t29 t30 t31 t32 t33 t34 t35 t36 t37 t38
          refine TC_loopP (fun k => k ≤ n) (fun k => ⟨50, [], [(0, .pointer (some ⟨p, 0, none⟩)), (1, iv a), (2, iv n), (3, .bool on), (9, iv ((a + k : Nat) : Int))]⟩) (fun k => [Bmp p (fillB l a on k)]) (fun k => n - k) 0 (Nat.zero_le _) (Env.le_of_knows (by repeat first | exact trivial | refine ⟨rfl, ?_⟩)) ?_
          rintro k hk
          refine TC_seq ?_
          refine TC_seq ?_
          refine TC_region ?_
          refine TO_puresN 4 tys_of rfl ?_
          rw [wrap_i64 (by omega) (by omega)]
          refine TO_puresN 0 tys_of rfl (TO_cons (TOp_bool tys_of rfl rfl (fun h43 => ?_) (fun h43 => ?_)))
          · -- t43 True: (Op.binOp BinOp.lss 3 (Operand.tmp 39) (Operand.tmp 42) 3)
            try simp only [decide_eq_true_eq, decide_eq_false_iff_not, beq_iff_eq, bne_iff_ne, beq_eq_false_iff_ne, bne_eq_false_iff_eq, ne_eq, Bool.not_eq_true', Bool.not_eq_false', Decidable.not_not] at h43
            refine TO_puresN 0 tys_of rfl (TO_nil ?_)
            refine TC_true rfl ?_
            refine TC_skip ?_
            refine TC_seq ?_
            refine TC_block ?_
            refine TC_region ?_
            refine TO_puresN 3 tys_of rfl (TO_cons (TOp_calls rfl rfl cl_bitmap_Map_turn (turn_fn _ p (fillB l a on k) (a + k) on (by rw [fillB_len]; omega)) fun y49 hy49 => ?_))
            refine TO_puresN 0 tys_of rfl (TO_nil ?_)
            try refine TN_blockn ?_
            refine TC_region ?_
            refine TO_puresN 2 tys_of rfl ?_
            try rw [wrap_i64 (by omega) (by omega)]
            refine TO_puresN 1 tys_of rfl (TO_nil ?_)
            rw [show (fillB l a on k).set (a + k) on = fillB l a on (k + 1) from rfl]
            refine TN_againP (k + 1) (by omega) (by omega) (Env.le_of_knows (by repeat first | exact trivial | refine ⟨rfl, ?_⟩))
          · -- t43 False: (Op.binOp BinOp.lss 3 (Operand.tmp 39) (Operand.tmp 42) 3)
            try simp only [decide_eq_true_eq, decide_eq_false_iff_not, beq_iff_eq, bne_iff_ne, beq_eq_false_iff_ne, bne_eq_false_iff_eq, ne_eq, Bool.not_eq_true', Bool.not_eq_false', Decidable.not_not] at h43
            refine TO_puresN 0 tys_of rfl (TO_nil ?_)
            refine TC_false rfl ?_
            refine TC_exit ?_
            repeat refine TN_thenx ?_
            refine TN_exit ?_
            refine TC_seq ?_
            refine TC_region ?_
            refine TO_puresN 1 tys_of rfl (TO_nil ?_)
            refine TC_ret ?_
            repeat (first | refine TN_thenr ?_ | refine TN_blockr ?_)
            have hkn : k = n := by omega
            subst hkn
            refine TN_rets tys_of () (.inl rfl) rfl (rs := [.tmp 8]) rfl (vs := [_]) ⟨rfl, trivial⟩ rfl trivial

theorem set_fn (S : Hp) (p : Nat) (l : List Bool) (hll : l.length < 2 ^ 62) (i : Int) (on : Bool) : FNs S prog F_bitmap_Map_Set #[.pointer (some ⟨p, 0, none⟩), iv i, .bool on] [Bmp p l] (fun (_ : Unit) => iv (fillE l i 1)) (fun _ => True) (fun _ => [Bmp p (fillL l i 1 on)]) := by
  refine FNs_of_body func_bitmap_Map_Set rfl ntmps_bitmap_Map_Set rfl ?_
  intro R w0
  refine TC_seq ?_
  refine TC_region ?_
  refine TO_puresN 1 tys_of rfl (TO_nil ?_)
  refine TC_seq ?_
  refine TC_region ?_
  refine TO_puresN 3 tys_of rfl (TO_cons (TOp_calls rfl rfl cl_bitmap_Map_Fill (fill_fn _ p l hll i 1 on) fun y10 hy10 => ?_))
  refine TO_puresN 1 tys_of rfl (TO_nil ?_)
  refine TC_ret ?_
  repeat (first | refine TN_thenr ?_ | refine TN_blockr ?_)
  refine TN_rets tys_of () (.inl rfl) rfl (rs := [.tmp 6]) rfl (vs := [_]) ⟨rfl, trivial⟩ rfl trivial

theorem zerosU (m : Nat) : zerosL m y62 = List.replicate m (uv 0) := zerosL_one rfl rfl
theorem zerosI (m : Nat) : zerosL m y3 = List.replicate m (iv 0) := zerosL_one rfl rfl
theorem wordsOf_off (n : Nat) : wordsOf (List.replicate n false) = List.replicate ((n + 63) / 64) (uv 0) := by
  unfold wordsOf
  apply List.ext_getElem?
  intro j
  rw [List.getElem?_map, List.length_replicate]
  by_cases hj : j < (n + 63) / 64
  · rw [List.getElem?_range hj, List.getElem?_replicate, if_pos hj]
    have : wordN (List.replicate n false) j = 0 := by
      unfold wordN
      rw [show (fun k => (List.replicate n false).getD (64 * j + k) false) = fun _ => false by
        funext k
        simp only [List.getD, List.getElem?_replicate]
        split <;> rfl]
      exact bitsNat_zero 64
    simp only [Option.map_some, this]
  · rw [List.getElem?_eq_none (by simp; omega), List.getElem?_eq_none (by simp; omega)]; rfl

theorem bitmapNew_fn (S : Hp) (n : Nat) (h1 : 1 ≤ n) (h2 : n ≤ 1048576) : FNs S prog F_bitmap_New #[iv n] [] (fun p : Nat => .tuple #[.pointer (some ⟨p, 0, none⟩), iv 0]) (fun _ => True) (fun p => [Bmp p (List.replicate n false)]) := by
  refine FNs_of_body func_bitmap_New rfl ntmps_bitmap_New rfl ?_
  intro R w0
  refine TC_seq ?_
  refine TC_region ?_
  refine TO_puresN 2 tys_of rfl (TO_nil ?_)
  refine TC_seq ?_
  refine TC_seq ?_
  refine TC_region ?_
  refine TO_puresN 1 tys_of rfl (TO_cons (TOp_bool tys_of rfl rfl (fun h5 => ?_) (fun h5 => ?_)))
  · -- t5 True: (Op.binOp BinOp.lss 3 (Operand.tmp 4) (Operand.const (Value.int IntKind.i64 1)) 3)
    try simp only [decide_eq_true_eq, decide_eq_false_iff_not, beq_iff_eq, bne_iff_ne, beq_eq_false_iff_ne, bne_eq_false_iff_eq, ne_eq, Bool.not_eq_true', Bool.not_eq_false', Decidable.not_not] at h5
    refine TO_puresN 4 tys_of rfl (TO_nil ?_)
    refine TC_true rfl ?_
    refine TC_seq ?_
    refine TC_region ?_
    refine TO_puresN 2 tys_of rfl (TO_nil ?_)
    refine TC_ret ?_
    repeat (first | refine TN_thenr ?_ | refine TN_blockr ?_)
    exfalso; omega
  · -- t5 False: (Op.binOp BinOp.lss 3 (Operand.tmp 4) (Operand.const (Value.int IntKind.i64 1)) 3)
    try simp only [decide_eq_true_eq, decide_eq_false_iff_not, beq_iff_eq, bne_iff_ne, beq_eq_false_iff_ne, bne_eq_false_iff_eq, ne_eq, Bool.not_eq_true', Bool.not_eq_false', Decidable.not_not] at h5
    refine TO_puresN 2 tys_of rfl (TO_cons (TOp_bool tys_of rfl rfl (fun h8 => ?_) (fun h8 => ?_)))
    · -- t8 True: (Op.binOp BinOp.gtr 3 (Operand.tmp 7) (Operand.const (Value.int IntKind.i64 1048576)) 3)
      try simp only [decide_eq_true_eq, decide_eq_false_iff_not, beq_iff_eq, bne_iff_ne, beq_eq_false_iff_ne, bne_eq_false_iff_eq, ne_eq, Bool.not_eq_true', Bool.not_eq_false', Decidable.not_not] at h8
      refine TO_puresN 1 tys_of rfl (TO_nil ?_)
      refine TC_true rfl ?_
      refine TC_seq ?_
      refine TC_region ?_
      refine TO_puresN 2 tys_of rfl (TO_nil ?_)
      refine TC_ret ?_
      repeat (first | refine TN_thenr ?_ | refine TN_blockr ?_)
      exfalso; omega
    · -- t8 False: (Op.binOp BinOp.gtr 3 (Operand.tmp 7) (Operand.const (Value.int IntKind.i64 1048576)) 3)
      try simp only [decide_eq_true_eq, decide_eq_false_iff_not, beq_iff_eq, bne_iff_ne, beq_eq_false_iff_ne, bne_eq_false_iff_eq, ne_eq, Bool.not_eq_true', Bool.not_eq_false', Decidable.not_not] at h8
      refine TO_puresN 1 tys_of rfl (TO_nil ?_)
      refine TC_false rfl ?_
      refine TC_skip ?_
      refine TC_seq ?_
      refine TC_region ?_
      refine TO_puresN 3 tys_of rfl ?_
      rw [wrap_i64 (by omega) (by omega), show ((n : Int) + 63) = ((n + 63 : Nat) : Int) by omega]
      refine TO_puresN 1 tys_of rfl ?_
      rw [quo_nat (n + 63) 63 (by omega)]
      refine TO_puresN 0 tys_of rfl (TO_cons (TOp_makeSlice tys_of rfl rfl rfl rfl rfl rfl (by omega) (by omega) (by show (n + 63) / 64 * 8 ≤ _; omega) fun b14 => ?_))
      refine TN.same b14 (l' := wordsOf (List.replicate n false)) (by rw [wordsOf_off]; exact zerosU _) ?_
      refine TO_puresN 1 tys_of rfl (TO_cons (TOp_box rfl rfl rfl fun b16 => ?_))
      refine TN.same b16 (l' := [.int .i64 (List.replicate n false).length, .slice (some ⟨b14, 0, none⟩) (((List.replicate n false).length + 63) / 64) (((List.replicate n false).length + 63) / 64), .int .i64 ((List.replicate n false).count true)]) (by rw [List.length_replicate, List.count_replicate]; rfl) ?_
      refine TO_puresN 2 tys_of rfl (TO_nil ?_)
      refine TC_ret ?_
      repeat (first | refine TN_thenr ?_ | refine TN_blockr ?_)
      refine TN.fold (Bmp b16 (List.replicate n false)) (ent_pack b14 (by rw [List.length_replicate]; exact ⟨h1, h2⟩)) ?_
      refine TN_rets tys_of b16 (.inl rfl) rfl (rs := [.tmp 2, .tmp 3]) rfl (vs := [_, _]) ⟨rfl, rfl, trivial⟩ rfl trivial
end Go.Sl.Tz

/-
  The contracts of package store. By mk.py out of spec/SlStore.spec.
-/
namespace Go.Sl.Tz
open Go Go.Proofs Go.Sl
set_option maxRecDepth 100000

structure StoreM where
  size : Nat
  w : List Nat
  owner : List Int
  used : List Bool
structure StoreOK (σ : StoreM) : Prop where
  s1 : 1 ≤ σ.size
  s2 : σ.size ≤ 1024
  c1 : 1 ≤ σ.owner.length
  c2 : σ.owner.length ≤ 1024
  wl : σ.w.length = σ.owner.length * σ.size
  ul : σ.used.length = σ.owner.length
  wb : ∀ x ∈ σ.w, x < 2 ^ 64
theorem StoreOK.wl2 {σ : StoreM} (h : StoreOK σ) : σ.w.length ≤ 1048576 := by
  rw [h.wl]
  have := Nat.mul_le_mul h.c2 h.s2
  omega
def Store (p : Nat) (σ : StoreM) : HProp := Pack (fun x : Slc × Slc × Nat => StoreOK σ ∧ σ.w.length = x.1.n ∧ σ.owner.length = x.2.1.n)
  (fun x => [cel p T_store_Store [x.1.val, iv σ.size, x.2.1.val, .pointer (some ⟨x.2.2, 0, none⟩)], Row x.1 T_uint64 1 (σ.w.map uv), Row x.2.1 T_int 1 (σ.owner.map iv), Bmp x.2.2 σ.used])

theorem quo_natd (m d : Nat) (h : m < 2 ^ 63) : IntKind.i64.wrap ((m : Int).tdiv (d : Int)) = ((m / d : Nat) : Int) := by
  rw [← Int.ofNat_tdiv]
  have := Nat.div_le_self m d
  generalize m / d = q at *
  exact wrap_i64 (by omega) (by omega)

theorem words_fn (S : Hp) (p : Nat) (σ : StoreM) : FNs S prog F_store_Store_Words #[.pointer (some ⟨p, 0, none⟩)] [Store p σ] (fun (_ : Unit) => iv σ.size) (fun _ => True) (fun _ => [Store p σ]) := by
  refine FNs_of_body func_store_Store_Words rfl ntmps_store_Store_Words rfl ?_
  intro R w0
  refine TN.unpack fun x hx => ?_
  refine TC_seq ?_
  refine TC_region ?_
  refine TO_puresN 1 tys_of rfl (TO_nil ?_)
  refine TC_seq ?_
  refine TC_seq ?_
  refine TC_region ?_
  refine TO_puresN 2 tys_of rfl (TO_nil ?_)
  refine TC_false rfl ?_
  refine TC_skip ?_
  refine TC_seq ?_
  refine TC_region ?_
  refine TO_puresN 3 tys_of rfl (TO_cons (TOp_exact rfl (Ex_load tys_of rfl rfl rfl lies_find rfl) ?_))
  refine TO_puresN 1 tys_of rfl (TO_nil ?_)
  refine TC_ret ?_
  repeat (first | refine TN_thenr ?_ | refine TN_blockr ?_)
  refine TN.fold (Store p σ) (ent_pack x hx) ?_
  refine TN_rets tys_of () (.inl rfl) rfl (rs := [.tmp 2]) rfl (vs := [_]) ⟨rfl, trivial⟩ rfl trivial

def ownedAll (o : List Int) (a b : Nat) : Bool := (List.range' a (b + 1 - a)).all fun c => !decide (o.getD c 0 = 0)
def atR (σ : StoreM) (addr n : Int) : Int :=
  if n < 0 ∨ addr < 0 ∨ addr > σ.w.length ∨ n > σ.w.length - addr then 3 else if n = 0 then 0
  else if ownedAll σ.owner (addr.toNat / σ.size) ((addr.toNat + n.toNat - 1) / σ.size) then 0 else 17
theorem ownedAll_true {o : List Int} {a b : Nat} (h : ∀ j, a ≤ j → j ≤ b → o.getD j 0 ≠ 0) : ownedAll o a b = true := List.all_eq_true.2 fun j hj => by
  have := List.mem_range'_1.1 hj
  have h' := h j this.1 (by omega)
  simp only [Bool.not_eq_true', decide_eq_false_iff_not]
  exact h'
theorem ownedAll_false {o : List Int} {a b k : Nat} (h1 : a ≤ k) (h2 : k ≤ b) (h : o.getD k 0 = 0) : ownedAll o a b = false := by
  rw [← Bool.not_eq_true]
  intro hc
  have := List.all_eq_true.1 hc k (List.mem_range'_1.2 ⟨h1, by omega⟩)
  simp only [Bool.not_eq_true', decide_eq_false_iff_not] at this
  exact this h

theorem at_fn (S : Hp) (p : Nat) (σ : StoreM) (addr n : Int) : FNs S prog F_store_Store_at #[.pointer (some ⟨p, 0, none⟩), iv addr, iv n] [Store p σ] (fun (_ : Unit) => iv (atR σ addr n)) (fun _ => True) (fun _ => [Store p σ]) := by
  refine FNs_of_body func_store_Store_at rfl ntmps_store_Store_at rfl ?_
  intro R w0
  refine TN.unpack fun ⟨sw, so, q⟩ hx => ?_
  obtain ⟨hok, hw, ho⟩ := hx
  dsimp only at hw ho ⊢
  have hw2 := hok.wl2
  refine TC_seq ?_
  refine TC_region ?_
  refine TO_puresN 1 tys_of rfl (TO_nil ?_)
  refine TC_seq ?_
  refine TC_seq ?_
  refine TC_region ?_
  refine TO_puresN 1 tys_of rfl (TO_cons (TOp_bool tys_of rfl rfl (fun h9 => ?_) (fun h9 => ?_)))
  · -- t9 True: (Op.binOp BinOp.lss 3 (Operand.tmp 8) (Operand.const (Value.int IntKind.i64 0)) 3)
    try simp only [decide_eq_true_eq, decide_eq_false_iff_not, beq_iff_eq, bne_iff_ne, beq_eq_false_iff_ne, bne_eq_false_iff_eq, ne_eq, Bool.not_eq_true', Bool.not_eq_false', Decidable.not_not] at h9
    refine TO_puresN 24 tys_of rfl (TO_nil ?_)
    refine TC_true rfl ?_
    refine TC_seq ?_
    refine TC_region ?_
    refine TO_puresN 1 tys_of rfl (TO_nil ?_)
    refine TC_ret ?_
    repeat (first | refine TN_thenr ?_ | refine TN_blockr ?_)
    refine TN.fold (Store p σ) (ent_pack (sw, so, q) ⟨hok, hw, ho⟩) ?_
    refine TN_rets tys_of () (.inl rfl) rfl (rs := [.tmp 6]) rfl (vs := [_]) ⟨rfl, trivial⟩ (by rw [show atR σ addr n = 3 from if_pos (by omega)]; rfl) trivial
  · -- t9 False: (Op.binOp BinOp.lss 3 (Operand.tmp 8) (Operand.const (Value.int IntKind.i64 0)) 3)
    try simp only [decide_eq_true_eq, decide_eq_false_iff_not, beq_iff_eq, bne_iff_ne, beq_eq_false_iff_ne, bne_eq_false_iff_eq, ne_eq, Bool.not_eq_true', Bool.not_eq_false', Decidable.not_not] at h9
    refine TO_puresN 2 tys_of rfl (TO_cons (TOp_bool tys_of rfl rfl (fun h12 => ?_) (fun h12 => ?_)))
    · -- t12 True: (Op.binOp BinOp.lss 3 (Operand.tmp 11) (Operand.const (Value.int IntKind.i64 0)) 3)
      try simp only [decide_eq_true_eq, decide_eq_false_iff_not, beq_iff_eq, bne_iff_ne, beq_eq_false_iff_ne, bne_eq_false_iff_eq, ne_eq, Bool.not_eq_true', Bool.not_eq_false', Decidable.not_not] at h12
      refine TO_puresN 21 tys_of rfl (TO_nil ?_)
      refine TC_true rfl ?_
      refine TC_seq ?_
      refine TC_region ?_
      refine TO_puresN 1 tys_of rfl (TO_nil ?_)
      refine TC_ret ?_
      repeat (first | refine TN_thenr ?_ | refine TN_blockr ?_)
      refine TN.fold (Store p σ) (ent_pack (sw, so, q) ⟨hok, hw, ho⟩) ?_
      refine TN_rets tys_of () (.inl rfl) rfl (rs := [.tmp 6]) rfl (vs := [_]) ⟨rfl, trivial⟩ (by rw [show atR σ addr n = 3 from if_pos (by omega)]; rfl) trivial
    · -- t12 False: (Op.binOp BinOp.lss 3 (Operand.tmp 11) (Operand.const (Value.int IntKind.i64 0)) 3)
      try simp only [decide_eq_true_eq, decide_eq_false_iff_not, beq_iff_eq, bne_iff_ne, beq_eq_false_iff_ne, bne_eq_false_iff_eq, ne_eq, Bool.not_eq_true', Bool.not_eq_false', Decidable.not_not] at h12
      refine TO_puresN 6 tys_of rfl (TO_cons (TOp_exact rfl (Ex_load tys_of rfl rfl rfl lies_find rfl) ?_))
      refine TO_puresN 1 tys_of rfl (TO_cons (TOp_bool tys_of rfl rfl (fun h21 => ?_) (fun h21 => ?_)))
      · -- t21 True: (Op.binOp BinOp.gtr 3 (Operand.tmp 15) (Operand.tmp 20) 3)
        try simp only [decide_eq_true_eq, decide_eq_false_iff_not, beq_iff_eq, bne_iff_ne, beq_eq_false_iff_ne, bne_eq_false_iff_eq, ne_eq, Bool.not_eq_true', Bool.not_eq_false', Decidable.not_not] at h21
        refine TO_puresN 12 tys_of rfl (TO_nil ?_)
        refine TC_true rfl ?_
        refine TC_seq ?_
        refine TC_region ?_
        refine TO_puresN 1 tys_of rfl (TO_nil ?_)
        refine TC_ret ?_
        repeat (first | refine TN_thenr ?_ | refine TN_blockr ?_)
        refine TN.fold (Store p σ) (ent_pack (sw, so, q) ⟨hok, hw, ho⟩) ?_
        refine TN_rets tys_of () (.inl rfl) rfl (rs := [.tmp 6]) rfl (vs := [_]) ⟨rfl, trivial⟩ (by rw [show atR σ addr n = 3 from if_pos (by omega)]; rfl) trivial
      · -- t21 False: (Op.binOp BinOp.gtr 3 (Operand.tmp 15) (Operand.tmp 20) 3)
        try simp only [decide_eq_true_eq, decide_eq_false_iff_not, beq_iff_eq, bne_iff_ne, beq_eq_false_iff_ne, bne_eq_false_iff_eq, ne_eq, Bool.not_eq_true', Bool.not_eq_false', Decidable.not_not] at h21
        refine TO_puresN 6 tys_of rfl (TO_cons (TOp_exact rfl (Ex_load tys_of rfl rfl rfl lies_find rfl) ?_))
        refine TO_puresN 3 tys_of rfl ?_
        rw [wrap_i64 (by omega) (by omega)]
        refine TO_puresN 0 tys_of rfl (TO_cons (TOp_bool tys_of rfl rfl (fun h32 => ?_) (fun h32 => ?_)))
        · -- t32 True: (Op.binOp BinOp.gtr 3 (Operand.tmp 24) (Operand.tmp 31) 3)
          try simp only [decide_eq_true_eq, decide_eq_false_iff_not, beq_iff_eq, bne_iff_ne, beq_eq_false_iff_ne, bne_eq_false_iff_eq, ne_eq, Bool.not_eq_true', Bool.not_eq_false', Decidable.not_not] at h32
          refine TO_puresN 1 tys_of rfl (TO_nil ?_)
          refine TC_true rfl ?_
          refine TC_seq ?_
          refine TC_region ?_
          refine TO_puresN 1 tys_of rfl (TO_nil ?_)
          refine TC_ret ?_
          repeat (first | refine TN_thenr ?_ | refine TN_blockr ?_)
          refine TN.fold (Store p σ) (ent_pack (sw, so, q) ⟨hok, hw, ho⟩) ?_
          refine TN_rets tys_of () (.inl rfl) rfl (rs := [.tmp 6]) rfl (vs := [_]) ⟨rfl, trivial⟩ (by rw [show atR σ addr n = 3 from if_pos (by omega)]; rfl) trivial
        · -- t32 False: (Op.binOp BinOp.gtr 3 (Operand.tmp 24) (Operand.tmp 31) 3)
          try simp only [decide_eq_true_eq, decide_eq_false_iff_not, beq_iff_eq, bne_iff_ne, beq_eq_false_iff_ne, bne_eq_false_iff_eq, ne_eq, Bool.not_eq_true', Bool.not_eq_false', Decidable.not_not] at h32
          refine TO_puresN 1 tys_of rfl (TO_nil ?_)
          refine TC_false rfl ?_
          refine TC_skip ?_
          refine TC_seq ?_
          refine TC_seq ?_
          refine TC_region ?_
          refine TO_puresN 1 tys_of rfl (TO_cons (TOp_bool tys_of rfl rfl (fun h35 => ?_) (fun h35 => ?_)))
          · -- t35 True: (Op.binOp BinOp.eql 3 (Operand.tmp 34) (Operand.const (Value.int IntKind.i64 0)) 3)
            try simp only [decide_eq_true_eq, decide_eq_false_iff_not, beq_iff_eq, bne_iff_ne, beq_eq_false_iff_ne, bne_eq_false_iff_eq, ne_eq, Bool.not_eq_true', Bool.not_eq_false', Decidable.not_not] at h35
            refine TO_puresN 0 tys_of rfl (TO_nil ?_)
            refine TC_true rfl ?_
            refine TC_seq ?_
            refine TC_region ?_
            refine TO_puresN 1 tys_of rfl (TO_nil ?_)
            refine TC_ret ?_
            repeat (first | refine TN_thenr ?_ | refine TN_blockr ?_)
            refine TN.fold (Store p σ) (ent_pack (sw, so, q) ⟨hok, hw, ho⟩) ?_
            refine TN_rets tys_of () (.inl rfl) rfl (rs := [.tmp 6]) rfl (vs := [_]) ⟨rfl, trivial⟩ (by rw [show atR σ addr n = 0 by unfold atR; rw [if_neg (by omega), if_pos (by omega)]]; rfl) trivial
          · -- t35 False: (Op.binOp BinOp.eql 3 (Operand.tmp 34) (Operand.const (Value.int IntKind.i64 0)) 3)
            try simp only [decide_eq_true_eq, decide_eq_false_iff_not, beq_iff_eq, bne_iff_ne, beq_eq_false_iff_ne, bne_eq_false_iff_eq, ne_eq, Bool.not_eq_true', Bool.not_eq_false', Decidable.not_not] at h35
            obtain ⟨a, rfl⟩ : ∃ m : Nat, addr = (m : Int) := ⟨addr.toNat, by omega⟩
            obtain ⟨m, rfl⟩ : ∃ m : Nat, n = (m : Int) := ⟨n.toNat, by omega⟩
            have hlast : (a + m - 1) / σ.size < σ.owner.length := by have := hok.wl; rw [Nat.div_lt_iff_lt_mul (by have := hok.s1; omega)]; omega
            have hat : atR σ (a : Int) (m : Int) = if ownedAll σ.owner (a / σ.size) ((a + m - 1) / σ.size) then 0 else 17 := by unfold atR; rw [if_neg (by omega), if_neg (by omega)]; simp
            have hs1 := hok.s1
            have hcc2 := hok.c2
            have hmono : a / σ.size ≤ (a + m - 1) / σ.size := Nat.div_le_div_right (by omega)
            refine TO_puresN 0 tys_of rfl (TO_nil ?_)
            refine TC_false rfl ?_
            refine TC_skip ?_
            refine TC_seq ?_
            refine TC_seq ?_
            refine TC_region ?_
            refine TO_puresN 4 tys_of rfl (TO_cons (TOp_exact rfl (Ex_load tys_of rfl rfl rfl lies_find rfl) ?_))
            refine TO_puresN 0 tys_of rfl (TO_cons (TOp_exact rfl (Ex_quo rfl rfl rfl (by omega)) ?_))
            rw [quo_natd _ _ (by omega)]
            refine TO_puresN 1 tys_of rfl (TO_nil ?_)
            refine TC_block ?_
            -- live: t0 t1 t2 t7 t8 t9 t10 t11 t12 t13 t14 t15 t16 t17 t18 t19 t20 t21 t22 t23 t24 t25 t26 t27 t28 t29 t30 t31 t32 t33 t34 t35 t36 t37 t38 t39 t40 t41
            refine TC_loopP (fun c => a / σ.size ≤ c ∧ c ≤ (a + m - 1) / σ.size + 1 ∧ ∀ j, a / σ.size ≤ j → j < c → σ.owner.getD j 0 ≠ 0) (fun c => ⟨63, [], [(0, .pointer (some ⟨p, 0, none⟩)), (1, iv a), (2, iv m), (7, iv c)]⟩) (fun c => [cel p T_store_Store [sw.val, iv σ.size, so.val, .pointer (some ⟨q, 0, none⟩)], Row sw T_uint64 1 (σ.w.map uv), Row so T_int 1 (σ.owner.map iv), Bmp q σ.used]) (fun c => (a + m - 1) / σ.size + 1 - c) (a / σ.size) ⟨Nat.le_refl _, by omega, fun j h1 h2 => by omega⟩ (Env.le_of_knows (by repeat first | exact trivial | refine ⟨rfl, ?_⟩)) ?_
            rintro c ⟨hc1, hc2, hall⟩
            refine TC_seq ?_
            refine TC_seq ?_
            refine TC_region ?_
            refine TO_puresN 4 tys_of rfl ?_
            rw [wrap_i64 (by omega) (by omega)]
            refine TO_puresN 1 tys_of rfl ?_
            rw [wrap_i64 (by omega) (by omega), show ((a : Int) + (m : Int) - 1) = ((a + m - 1 : Nat) : Int) by omega]
            refine TO_puresN 3 tys_of rfl (TO_cons (TOp_exact rfl (Ex_load tys_of rfl rfl rfl lies_find rfl) ?_))
            refine TO_puresN 0 tys_of rfl (TO_cons (TOp_exact rfl (Ex_quo rfl rfl rfl (by omega)) ?_))
            rw [quo_natd _ _ (by omega)]
            refine TO_puresN 0 tys_of rfl (TO_cons (TOp_bool tys_of rfl rfl (fun h52 => ?_) (fun h52 => ?_)))
            · -- t52 True: (Op.binOp BinOp.leq 3 (Operand.tmp 42) (Operand.tmp 51) 3)
              try simp only [decide_eq_true_eq, decide_eq_false_iff_not, beq_iff_eq, bne_iff_ne, beq_eq_false_iff_ne, bne_eq_false_iff_eq, ne_eq, Bool.not_eq_true', Bool.not_eq_false', Decidable.not_not] at h52
              have hck : c < σ.owner.length := by omega
              refine TN.rowopen so (by omega) fun g pre sp ha hrow => ?_
              refine TO_puresN 0 tys_of rfl (TO_nil ?_)
              refine TC_true rfl ?_
              refine TC_skip ?_
              refine TC_seq ?_
              refine TC_block ?_
              refine TC_seq ?_
              refine TC_region ?_
              refine TO_puresN 3 tys_of rfl (TO_cons (TOp_exact rfl (Ex_load tys_of rfl rfl rfl lies_find rfl) ?_))
              refine TO_puresN 1 tys_of rfl (TO_cons (TOp_exact rfl (Ex_indexS (sz := 1) tys_of rfl rfl ha rfl rfl rfl (by omega)) ?_))
              refine TO_puresN 0 tys_of rfl (TO_cons (TOp_exact rfl (Ex_load tys_of rfl rfl rfl lies_find (loadL_row (loadL_one rfl (v := iv σ.owner[c]) (by rw [List.getElem?_map, List.getElem?_eq_getElem hck]; rfl)))) ?_))
              refine TN.rowclose hrow ?_
              have hg := getD_lt hck
              refine TO_puresN 0 tys_of rfl (TO_cons (TOp_bool tys_of rfl rfl (fun h62 => ?_) (fun h62 => ?_)))
              · -- t62 True: (Op.binOp BinOp.eql 3 (Operand.tmp 61) (Operand.const (Value.int IntKind.i64 0)) 3)
                try simp only [decide_eq_true_eq, decide_eq_false_iff_not, beq_iff_eq, bne_iff_ne, beq_eq_false_iff_ne, bne_eq_false_iff_eq, ne_eq, Bool.not_eq_true', Bool.not_eq_false', Decidable.not_not] at h62
                refine TO_puresN 0 tys_of rfl (TO_nil ?_)
                refine TC_true rfl ?_
                refine TC_seq ?_
                refine TC_region ?_
                refine TO_puresN 1 tys_of rfl (TO_nil ?_)
                refine TC_ret ?_
                repeat (first | refine TN_thenr ?_ | refine TN_blockr ?_)
                refine TN.fold (Store p σ) (ent_pack (sw, so, q) ⟨hok, hw, ho⟩) ?_
                refine TN_rets tys_of () (.inl rfl) rfl (rs := [.tmp 6]) rfl (vs := [_]) ⟨rfl, trivial⟩ (by rw [hat, ownedAll_false hc1 (by omega) (by rw [hg]; exact h62)]; rfl) trivial
              · -- t62 False: (Op.binOp BinOp.eql 3 (Operand.tmp 61) (Operand.const (Value.int IntKind.i64 0)) 3)
                try simp only [decide_eq_true_eq, decide_eq_false_iff_not, beq_iff_eq, bne_iff_ne, beq_eq_false_iff_ne, bne_eq_false_iff_eq, ne_eq, Bool.not_eq_true', Bool.not_eq_false', Decidable.not_not] at h62
                refine TO_puresN 0 tys_of rfl (TO_nil ?_)
                refine TC_false rfl ?_
                refine TC_skip ?_
                try refine TN_blockn ?_
                refine TC_region ?_
                refine TO_puresN 2 tys_of rfl ?_
                try rw [wrap_i64 (by omega) (by omega)]
                refine TO_puresN 1 tys_of rfl (TO_nil ?_)
                refine TN_againP (c + 1) ⟨by omega, by omega, fun j h1 h2 => by rcases Nat.lt_succ_iff_lt_or_eq.1 h2 with h | rfl; exact hall j h1 h; rw [hg]; exact h62⟩ (by omega) (Env.le_of_knows (by repeat first | exact trivial | refine ⟨rfl, ?_⟩))
            · -- t52 False: (Op.binOp BinOp.leq 3 (Operand.tmp 42) (Operand.tmp 51) 3)
              try simp only [decide_eq_true_eq, decide_eq_false_iff_not, beq_iff_eq, bne_iff_ne, beq_eq_false_iff_ne, bne_eq_false_iff_eq, ne_eq, Bool.not_eq_true', Bool.not_eq_false', Decidable.not_not] at h52
              refine TO_puresN 0 tys_of rfl (TO_nil ?_)
              refine TC_false rfl ?_
              refine TC_exit ?_
              repeat refine TN_thenx ?_
              refine TN_exit ?_
              refine TC_seq ?_
              refine TC_region ?_
              refine TO_puresN 1 tys_of rfl (TO_nil ?_)
              refine TC_ret ?_
              repeat (first | refine TN_thenr ?_ | refine TN_blockr ?_)
              refine TN.fold (Store p σ) (ent_pack (sw, so, q) ⟨hok, hw, ho⟩) ?_
              refine TN_rets tys_of () (.inl rfl) rfl (rs := [.tmp 6]) rfl (vs := [_]) ⟨rfl, trivial⟩ (by rw [hat, ownedAll_true fun j h1 h2 => hall j h1 (by omega)]; rfl) trivial

theorem cells_uv (l : List Nat) : (l.map uv).all isCell = true := by
  rw [List.all_eq_true]
  intro u hu
  obtain ⟨x, _, rfl⟩ := List.mem_map.1 hu
  rfl
theorem cells_iv (l : List Int) : (l.map iv).all isCell = true := by
  rw [List.all_eq_true]
  intro u hu
  obtain ⟨x, _, rfl⟩ := List.mem_map.1 hu
  rfl
theorem at_one {σ : StoreM} {addr : Int} (h : atR σ addr 1 = 0) : 0 ≤ addr ∧ addr < σ.w.length := by
  unfold atR at h
  split at h
  · omega
  · omega
def writeS (σ : StoreM) (addr : Int) (x : Nat) : StoreM := if atR σ addr 1 = 0 then { σ with w := σ.w.set addr.toNat x } else σ
theorem StoreOK.set {σ : StoreM} (h : StoreOK σ) (i : Nat) {x : Nat} (hx : x < 2 ^ 64) : StoreOK { σ with w := σ.w.set i x } :=
  ⟨h.s1, h.s2, h.c1, h.c2, by simpa using h.wl, h.ul, fun y hy => by
    rcases List.mem_or_eq_of_mem_set hy with h' | rfl
    · exact h.wb y h'
    · exact hx⟩
theorem write_fn (S : Hp) (p : Nat) (σ : StoreM) (addr : Int) (x : Nat) (hx : x < 2 ^ 64) : FNs S prog F_store_Store_Write #[.pointer (some ⟨p, 0, none⟩), iv addr, uv x] [Store p σ] (fun (_ : Unit) => iv (atR σ addr 1)) (fun _ => True) (fun _ => [Store p (writeS σ addr x)]) := by
  refine FNs_of_body func_store_Store_Write rfl ntmps_store_Store_Write rfl ?_
  intro R w0
  refine TC_seq ?_
  refine TC_region ?_
  refine TO_puresN 1 tys_of rfl (TO_nil ?_)
  refine TC_seq ?_
  refine TC_seq ?_
  refine TC_region ?_
  refine TO_puresN 2 tys_of rfl (TO_nil ?_)
  refine TC_false rfl ?_
  refine TC_skip ?_
  refine TC_seq ?_
  refine TC_region ?_
  refine TO_puresN 2 tys_of rfl (TO_cons (TOp_calls rfl rfl cl_store_Store_at (at_fn _ p σ addr 1) fun y12 hy12 => ?_))
  refine TO_puresN 1 tys_of rfl (TO_nil ?_)
  refine TC_seq ?_
  refine TC_seq ?_
  refine TC_region ?_
  refine TO_puresN 1 tys_of rfl (TO_cons (TOp_bool tys_of rfl rfl (fun h14 => ?_) (fun h14 => ?_)))
  · -- t14 True: (Op.binOp BinOp.eql 40 (Operand.tmp 13) (Operand.const (Value.int IntKind.i64 0)) 40)
    try simp only [decide_eq_true_eq, decide_eq_false_iff_not, beq_iff_eq, bne_iff_ne, beq_eq_false_iff_ne, bne_eq_false_iff_eq, ne_eq, Bool.not_eq_true', Bool.not_eq_false', Decidable.not_not] at h14
    rw [show writeS σ addr x = { σ with w := σ.w.set addr.toNat x } from if_pos h14]
    obtain ⟨ha0, ha1⟩ := at_one h14
    obtain ⟨a, rfl⟩ : ∃ m : Nat, addr = (m : Int) := ⟨addr.toNat, by omega⟩
    simp only [Int.toNat_natCast]
    refine TN.unpack fun ⟨sw, so, q⟩ hx' => ?_
    obtain ⟨hok, hw, ho⟩ := hx'
    dsimp only at hw ho ⊢
    refine TO_puresN 0 tys_of rfl (TO_nil ?_)
    refine TC_true rfl ?_
    refine TC_region ?_
    refine TO_puresN 3 tys_of rfl (TO_cons (TOp_exact rfl (Ex_load tys_of rfl rfl rfl lies_find rfl) ?_))
    refine TO_puresN 1 tys_of rfl ?_
    refine TN.rowopen sw (by omega) fun g pre sp ha hrow => ?_
    refine TO_puresN 1 tys_of rfl (TO_cons (TOp_exact rfl (Ex_indexS (sz := 1) tys_of rfl rfl ha rfl rfl rfl (by omega)) ?_))
    refine TO_puresN 0 tys_of rfl (TO_cons (TOp_storeRow (j := a) tys_of rfl rfl rfl rfl rfl rfl rfl (by simp; omega) ?_))
    rw [← List.map_set]
    refine TN.rowclose (hrow.set ((σ.w.set a x).map uv) (by simp) (cells_uv _)) ?_
    refine TO_puresN 0 tys_of rfl (TO_nil ?_)
    refine TC_seq ?_
    refine TC_region ?_
    refine TO_puresN 2 tys_of rfl (TO_nil ?_)
    refine TC_ret ?_
    repeat (first | refine TN_thenr ?_ | refine TN_blockr ?_)
    refine TN.fold (Store p { σ with w := σ.w.set a x }) (ent_pack (sw, so, q) ⟨hok.set a hx, by simpa using hw, ho⟩) ?_
    refine TN_rets tys_of () (.inl rfl) rfl (rs := [.tmp 6]) rfl (vs := [_]) ⟨rfl, trivial⟩ rfl trivial
  · -- t14 False: (Op.binOp BinOp.eql 40 (Operand.tmp 13) (Operand.const (Value.int IntKind.i64 0)) 40)
    try simp only [decide_eq_true_eq, decide_eq_false_iff_not, beq_iff_eq, bne_iff_ne, beq_eq_false_iff_ne, bne_eq_false_iff_eq, ne_eq, Bool.not_eq_true', Bool.not_eq_false', Decidable.not_not] at h14
    rw [show writeS σ addr x = σ from if_neg h14]
    refine TO_puresN 0 tys_of rfl (TO_nil ?_)
    refine TC_false rfl ?_
    refine TC_skip ?_
    refine TC_seq ?_
    refine TC_region ?_
    refine TO_puresN 2 tys_of rfl (TO_nil ?_)
    refine TC_ret ?_
    repeat (first | refine TN_thenr ?_ | refine TN_blockr ?_)
    refine TN_rets tys_of () (.inl rfl) rfl (rs := [.tmp 6]) rfl (vs := [_]) ⟨rfl, trivial⟩ rfl trivial
def readR (σ : StoreM) (addr : Int) : Nat := if atR σ addr 1 = 0 then σ.w.getD addr.toNat 0 else 0
theorem read_fn (S : Hp) (p : Nat) (σ : StoreM) (addr : Int) : FNs S prog F_store_Store_Read #[.pointer (some ⟨p, 0, none⟩), iv addr] [Store p σ] (fun (_ : Unit) => .tuple #[uv (readR σ addr), iv (atR σ addr 1)]) (fun _ => True) (fun _ => [Store p σ]) := by
  refine FNs_of_body func_store_Store_Read rfl ntmps_store_Store_Read rfl ?_
  intro R w0
  refine TC_seq ?_
  refine TC_region ?_
  refine TO_puresN 2 tys_of rfl (TO_nil ?_)
  refine TC_seq ?_
  refine TC_seq ?_
  refine TC_region ?_
  refine TO_puresN 2 tys_of rfl (TO_nil ?_)
  refine TC_false rfl ?_
  refine TC_skip ?_
  refine TC_seq ?_
  refine TC_seq ?_
  refine TC_region ?_
  refine TO_puresN 2 tys_of rfl (TO_cons (TOp_calls rfl rfl cl_store_Store_at (at_fn _ p σ addr 1) fun y11 hy11 => ?_))
  refine TO_puresN 1 tys_of rfl (TO_nil ?_)
  refine TC_seq ?_
  refine TC_region ?_
  refine TO_puresN 1 tys_of rfl (TO_cons (TOp_bool tys_of rfl rfl (fun h13 => ?_) (fun h13 => ?_)))
  · -- t13 True: (Op.binOp BinOp.neq 40 (Operand.tmp 12) (Operand.const (Value.int IntKind.i64 0)) 40)
    try simp only [decide_eq_true_eq, decide_eq_false_iff_not, beq_iff_eq, bne_iff_ne, beq_eq_false_iff_ne, bne_eq_false_iff_eq, ne_eq, Bool.not_eq_true', Bool.not_eq_false', Decidable.not_not] at h13
    refine TO_puresN 0 tys_of rfl (TO_nil ?_)
    refine TC_true rfl ?_
    refine TC_seq ?_
    refine TC_region ?_
    refine TO_puresN 3 tys_of rfl (TO_nil ?_)
    refine TC_ret ?_
    repeat (first | refine TN_thenr ?_ | refine TN_blockr ?_)
    refine TN_rets tys_of () (.inl rfl) rfl (rs := [.tmp 4, .tmp 5]) rfl (vs := [_, _]) ⟨rfl, rfl, trivial⟩ (by rw [show readR σ addr = 0 from if_neg h13]; rfl) trivial
  · -- t13 False: (Op.binOp BinOp.neq 40 (Operand.tmp 12) (Operand.const (Value.int IntKind.i64 0)) 40)
    try simp only [decide_eq_true_eq, decide_eq_false_iff_not, beq_iff_eq, bne_iff_ne, beq_eq_false_iff_ne, bne_eq_false_iff_eq, ne_eq, Bool.not_eq_true', Bool.not_eq_false', Decidable.not_not] at h13
    obtain ⟨ha0, ha1⟩ := at_one h13
    obtain ⟨a, rfl⟩ : ∃ m : Nat, addr = (m : Int) := ⟨addr.toNat, by omega⟩
    have hat : a < σ.w.length := by omega
    refine TN.unpack fun ⟨sw, so, q⟩ hx' => ?_
    obtain ⟨hok, hw, ho⟩ := hx'
    dsimp only at hw ho ⊢
    refine TN.rowopen sw (by omega) fun g pre sp ha hrow => ?_
    refine TO_puresN 0 tys_of rfl (TO_nil ?_)
    refine TC_false rfl ?_
    refine TC_skip ?_
    refine TC_seq ?_
    refine TC_region ?_
    refine TO_puresN 3 tys_of rfl (TO_cons (TOp_exact rfl (Ex_load tys_of rfl rfl rfl lies_find rfl) ?_))
    refine TO_puresN 1 tys_of rfl (TO_cons (TOp_exact rfl (Ex_indexS (sz := 1) tys_of rfl rfl ha rfl rfl rfl (by omega)) ?_))
    refine TO_puresN 0 tys_of rfl (TO_cons (TOp_exact rfl (Ex_load tys_of rfl rfl rfl lies_find (loadL_row (loadL_one rfl (v := uv σ.w[a]) (by rw [List.getElem?_map, List.getElem?_eq_getElem hat]; rfl)))) ?_))
    refine TO_puresN 2 tys_of rfl (TO_nil ?_)
    refine TC_ret ?_
    repeat (first | refine TN_thenr ?_ | refine TN_blockr ?_)
    refine TN.rowclose hrow ?_
    refine TN.fold (Store p σ) (ent_pack (sw, so, q) ⟨hok, hw, ho⟩) ?_
    refine TN_rets tys_of () (.inl rfl) rfl (rs := [.tmp 4, .tmp 5]) rfl (vs := [_, _]) ⟨rfl, rfl, trivial⟩ (by rw [show readR σ a = σ.w[a] by unfold readR; rw [if_pos h13]; simp [List.getD, hat], h13]; rfl) trivial

/-! ### A new one -/
def validS (c w : Int) : Prop := 1 ≤ c ∧ c ≤ 1024 ∧ 1 ≤ w ∧ w ≤ 1024
def store0 (c w : Int) : StoreM := ⟨w.toNat, List.replicate (c.toNat * w.toNat) 0, List.replicate c.toNat 0, List.replicate c.toNat false⟩
def optP (o : Option Nat) : Value := .pointer (o.map fun p => ⟨p, 0, none⟩)
def optE (e : Int) (o : Option Nat) : Int := if o.isSome then 0 else e
theorem mul_le_million {c w : Nat} (h1 : c ≤ 1024) (h2 : w ≤ 1024) : c * w ≤ 1048576 := by have := Nat.mul_le_mul h1 h2; omega
theorem store0_ok {c w : Nat} (h : validS c w) : StoreOK (store0 c w) := by
  obtain ⟨h1, h2, h3, h4⟩ := h
  refine ⟨by simp [store0]; omega, by simp [store0]; omega, by simp [store0]; omega, by simp [store0]; omega, by simp [store0], by simp [store0], fun x hx => ?_⟩
  rw [(List.mem_replicate.1 hx).2]; decide

theorem storeNew_fn (S : Hp) (c w : Int) : FNs S prog F_store_New #[iv c, iv w] [] (fun o : Option Nat => .tuple #[optP o, iv (optE 3 o)]) (fun o => o.isSome = true ↔ validS c w) (fun o => match o with | none => [] | some p => [Store p (store0 c w)]) := by
  refine FNs_of_body func_store_New rfl ntmps_store_New rfl ?_
  intro R w0
  refine TC_seq ?_
  refine TC_region ?_
  refine TO_puresN 2 tys_of rfl (TO_nil ?_)
  refine TC_seq ?_
  refine TC_seq ?_
  refine TC_region ?_
  refine TO_puresN 1 tys_of rfl (TO_cons (TOp_bool tys_of rfl rfl (fun h9 => ?_) (fun h9 => ?_)))
  · -- t9 True: (Op.binOp BinOp.lss 3 (Operand.tmp 8) (Operand.const (Value.int IntKind.i64 1)) 3)
    try simp only [decide_eq_true_eq, decide_eq_false_iff_not, beq_iff_eq, bne_iff_ne, beq_eq_false_iff_ne, bne_eq_false_iff_eq, ne_eq, Bool.not_eq_true', Bool.not_eq_false', Decidable.not_not] at h9
    refine TO_puresN 12 tys_of rfl (TO_nil ?_)
    refine TC_true rfl ?_
    refine TC_seq ?_
    refine TC_region ?_
    refine TO_puresN 2 tys_of rfl (TO_nil ?_)
    refine TC_ret ?_
    repeat (first | refine TN_thenr ?_ | refine TN_blockr ?_)
    refine TN_rets tys_of none (.inl rfl) rfl (rs := [.tmp 4, .tmp 5]) rfl (vs := [_, _]) ⟨rfl, rfl, trivial⟩ rfl (by simp [validS]; omega)
  · -- t9 False: (Op.binOp BinOp.lss 3 (Operand.tmp 8) (Operand.const (Value.int IntKind.i64 1)) 3)
    try simp only [decide_eq_true_eq, decide_eq_false_iff_not, beq_iff_eq, bne_iff_ne, beq_eq_false_iff_ne, bne_eq_false_iff_eq, ne_eq, Bool.not_eq_true', Bool.not_eq_false', Decidable.not_not] at h9
    refine TO_puresN 2 tys_of rfl (TO_cons (TOp_bool tys_of rfl rfl (fun h12 => ?_) (fun h12 => ?_)))
    · -- t12 True: (Op.binOp BinOp.gtr 3 (Operand.tmp 11) (Operand.const (Value.int IntKind.i64 1024)) 3)
      try simp only [decide_eq_true_eq, decide_eq_false_iff_not, beq_iff_eq, bne_iff_ne, beq_eq_false_iff_ne, bne_eq_false_iff_eq, ne_eq, Bool.not_eq_true', Bool.not_eq_false', Decidable.not_not] at h12
      refine TO_puresN 9 tys_of rfl (TO_nil ?_)
      refine TC_true rfl ?_
      refine TC_seq ?_
      refine TC_region ?_
      refine TO_puresN 2 tys_of rfl (TO_nil ?_)
      refine TC_ret ?_
      repeat (first | refine TN_thenr ?_ | refine TN_blockr ?_)
      refine TN_rets tys_of none (.inl rfl) rfl (rs := [.tmp 4, .tmp 5]) rfl (vs := [_, _]) ⟨rfl, rfl, trivial⟩ rfl (by simp [validS]; omega)
    · -- t12 False: (Op.binOp BinOp.gtr 3 (Operand.tmp 11) (Operand.const (Value.int IntKind.i64 1024)) 3)
      try simp only [decide_eq_true_eq, decide_eq_false_iff_not, beq_iff_eq, bne_iff_ne, beq_eq_false_iff_ne, bne_eq_false_iff_eq, ne_eq, Bool.not_eq_true', Bool.not_eq_false', Decidable.not_not] at h12
      refine TO_puresN 3 tys_of rfl (TO_cons (TOp_bool tys_of rfl rfl (fun h16 => ?_) (fun h16 => ?_)))
      · -- t16 True: (Op.binOp BinOp.lss 3 (Operand.tmp 15) (Operand.const (Value.int IntKind.i64 1)) 3)
        try simp only [decide_eq_true_eq, decide_eq_false_iff_not, beq_iff_eq, bne_iff_ne, beq_eq_false_iff_ne, bne_eq_false_iff_eq, ne_eq, Bool.not_eq_true', Bool.not_eq_false', Decidable.not_not] at h16
        refine TO_puresN 5 tys_of rfl (TO_nil ?_)
        refine TC_true rfl ?_
        refine TC_seq ?_
        refine TC_region ?_
        refine TO_puresN 2 tys_of rfl (TO_nil ?_)
        refine TC_ret ?_
        repeat (first | refine TN_thenr ?_ | refine TN_blockr ?_)
        refine TN_rets tys_of none (.inl rfl) rfl (rs := [.tmp 4, .tmp 5]) rfl (vs := [_, _]) ⟨rfl, rfl, trivial⟩ rfl (by simp [validS]; omega)
      · -- t16 False: (Op.binOp BinOp.lss 3 (Operand.tmp 15) (Operand.const (Value.int IntKind.i64 1)) 3)
        try simp only [decide_eq_true_eq, decide_eq_false_iff_not, beq_iff_eq, bne_iff_ne, beq_eq_false_iff_ne, bne_eq_false_iff_eq, ne_eq, Bool.not_eq_true', Bool.not_eq_false', Decidable.not_not] at h16
        refine TO_puresN 3 tys_of rfl (TO_cons (TOp_bool tys_of rfl rfl (fun h20 => ?_) (fun h20 => ?_)))
        · -- t20 True: (Op.binOp BinOp.gtr 3 (Operand.tmp 19) (Operand.const (Value.int IntKind.i64 1024)) 3)
          try simp only [decide_eq_true_eq, decide_eq_false_iff_not, beq_iff_eq, bne_iff_ne, beq_eq_false_iff_ne, bne_eq_false_iff_eq, ne_eq, Bool.not_eq_true', Bool.not_eq_false', Decidable.not_not] at h20
          refine TO_puresN 1 tys_of rfl (TO_nil ?_)
          refine TC_true rfl ?_
          refine TC_seq ?_
          refine TC_region ?_
          refine TO_puresN 2 tys_of rfl (TO_nil ?_)
          refine TC_ret ?_
          repeat (first | refine TN_thenr ?_ | refine TN_blockr ?_)
          refine TN_rets tys_of none (.inl rfl) rfl (rs := [.tmp 4, .tmp 5]) rfl (vs := [_, _]) ⟨rfl, rfl, trivial⟩ rfl (by simp [validS]; omega)
        · -- t20 False: (Op.binOp BinOp.gtr 3 (Operand.tmp 19) (Operand.const (Value.int IntKind.i64 1024)) 3)
          try simp only [decide_eq_true_eq, decide_eq_false_iff_not, beq_iff_eq, bne_iff_ne, beq_eq_false_iff_ne, bne_eq_false_iff_eq, ne_eq, Bool.not_eq_true', Bool.not_eq_false', Decidable.not_not] at h20
          have hv : validS c w := ⟨by omega, by omega, by omega, by omega⟩
          obtain ⟨c, rfl⟩ : ∃ m : Nat, c = (m : Int) := ⟨c.toNat, by omega⟩
          obtain ⟨w, rfl⟩ : ∃ m : Nat, w = (m : Int) := ⟨w.toNat, by omega⟩
          have hcw := mul_le_million (c := c) (w := w) (by omega) (by omega)
          refine TO_puresN 1 tys_of rfl (TO_nil ?_)
          refine TC_false rfl ?_
          refine TC_skip ?_
          refine TC_seq ?_
          refine TC_region ?_
          refine TO_puresN 1 tys_of rfl (TO_cons (TOp_calls rfl rfl cl_bitmap_New (bitmapNew_fn _ c (by omega) (by omega)) fun y24 hy24 => ?_))
          refine TO_puresN 5 tys_of rfl (TO_nil ?_)
          refine TC_seq ?_
          refine TC_draw (by kernel_rfl) (sep []) 12 ?_
          refine TA_frees (fuel := 6) [0, 1, 2, 4, 5, 7] rfl (fun _ _ _ h => h) (by decide +kernel) ?_
          refine TR_puresN 3 tys_of rfl ?_
          rw [← Int.natCast_mul, wrap_i64 (by omega) (by omega)]
          refine TR_puresN 3 tys_of rfl (TR_done ?_)
          refine TA_have (fuel' := 3) (listed' := #[true, true, true, true, true, true, true, true, true, false, false, false]) (fun y : Nat × Nat => True) (fun y : Nat × Nat => ⟨37, [], [(35, .agg #[.slice (some ⟨y.1, 0, none⟩) (c * w) (c * w), iv w, .slice (some ⟨y.2, 0, none⟩) c c, .pointer (some ⟨y24, 0, none⟩)])]⟩) (fun y : Nat × Nat => [Row ⟨some ⟨y.1, 0, none⟩, c * w, c * w⟩ T_uint64 1 ((store0 c w).w.map uv), Row ⟨some ⟨y.2, 0, none⟩, c, c⟩ T_int 1 ((store0 c w).owner.map iv), Bmp y24 (List.replicate c false)]) ?_ ?_
          rotate_left
          · intro tail
            refine TA_two (fuel := 5) 3 6 (by decide +kernel) ?_ ?_
            · refine TOp_makeSlice tys_of rfl rfl rfl rfl rfl rfl (by omega) (by omega) (by show c * w * 8 ≤ _; omega) fun b30 => ?_
              refine TN.rownew b30 (c * w) 1 ((store0 c w).w.map uv) (by rw [zerosU]; simp [store0]) (by simp [store0]) (cells_uv _) ?_
              refine TB_low ent_takes ?_
              refine TA_one (fuel := 4) 6 (by decide +kernel) (TOp_makeSlice tys_of rfl rfl rfl rfl rfl rfl (by omega) (by omega) (by show c * 8 ≤ _; omega) fun b33 => ?_)
              refine TN.rownew b33 c 1 ((store0 c w).owner.map iv) (by rw [zerosI]; simp [store0]) (by simp [store0]) (cells_iv _) ?_
              refine TB_low ent_takes ?_
              refine TA_frees (fuel := 3) [8] rfl (fun _ _ _ h => h) (by decide +kernel) ?_
              refine TR_puresN 1 tys_of rfl (TR_done ?_)
              exact TA_use (tail (b30, b33) trivial) (by decide +kernel) (Env.le_of_knows (by repeat first | exact trivial | refine ⟨rfl, ?_⟩))
            · refine TOp_makeSlice tys_of rfl rfl rfl rfl rfl rfl (by omega) (by omega) (by show c * 8 ≤ _; omega) fun b33 => ?_
              refine TN.rownew b33 c 1 ((store0 c w).owner.map iv) (by rw [zerosI]; simp [store0]) (by simp [store0]) (cells_iv _) ?_
              refine TB_low ent_takes ?_
              refine TA_one (fuel := 4) 3 (by decide +kernel) (TOp_makeSlice tys_of rfl rfl rfl rfl rfl rfl (by omega) (by omega) (by show c * w * 8 ≤ _; omega) fun b30 => ?_)
              refine TN.rownew b30 (c * w) 1 ((store0 c w).w.map uv) (by rw [zerosU]; simp [store0]) (by simp [store0]) (cells_uv _) ?_
              refine TB_low ent_takes ?_
              refine TA_frees (fuel := 3) [8] rfl (fun _ _ _ h => h) (by decide +kernel) ?_
              refine TR_puresN 1 tys_of rfl (TR_done ?_)
              exact TA_use (tail (b30, b33) trivial) (by decide +kernel) (Env.le_of_knows (by repeat first | exact trivial | refine ⟨rfl, ?_⟩))
          rintro ⟨b30, b33⟩ -
          dsimp only
          refine TA_one (fuel := 2) 9 (by decide +kernel) (TOp_box rfl rfl rfl fun b36 => ?_)
          refine TB_low ent_takes ?_
          refine TA_frees (fuel := 0) [10, 11] rfl (fun _ _ _ h => h) (by decide +kernel) ?_
          refine TR_puresN 2 tys_of rfl (TR_done ?_)
          refine TA_nil ?_ (by decide +kernel)
          refine TC_ret ?_
          repeat (first | refine TN_thenr ?_ | refine TN_blockr ?_)
          rw [show Bmp y24 (List.replicate c false) = Bmp y24 (store0 (c : Int) (w : Int)).used from rfl]
          refine TN.same b36 (l' := [.slice (some ⟨b30, 0, none⟩) (c * w) (c * w), iv (store0 (c : Int) (w : Int)).size, .slice (some ⟨b33, 0, none⟩) c c, .pointer (some ⟨y24, 0, none⟩)]) rfl ?_
          refine TN.fold (Store b36 (store0 c w)) (ent_pack (⟨some ⟨b30, 0, none⟩, c * w, c * w⟩, ⟨some ⟨b33, 0, none⟩, c, c⟩, y24) ⟨store0_ok hv, by simp [store0], by simp [store0]⟩) ?_
          refine TN_rets tys_of (some b36) (.inl rfl) rfl (rs := [.tmp 4, .tmp 5]) rfl (vs := [_, _]) ⟨rfl, rfl, trivial⟩ rfl (by simp [hv])
end Go.Sl.Tz

/-
  The contracts of package store, second part. By mk.py out of spec/SlStore2.spec.
-/
namespace Go.Sl.Tz
open Go Go.Proofs Go.Sl
set_option maxRecDepth 100000

/-- So many places from a on are v. -/
def fillA {α : Type} (l : List α) (a : Nat) (v : α) : Nat → List α
  | 0 => l
  | k + 1 => (fillA l a v k).set (a + k) v
theorem fillA_len {α : Type} (l : List α) (a : Nat) (v : α) : ∀ k, (fillA l a v k).length = l.length
  | 0 => rfl
  | k + 1 => by simp [fillA, fillA_len l a v k]
theorem fillA_map {α β : Type} (f : α → β) (l : List α) (a : Nat) (v : α) : ∀ k, (fillA l a v k).map f = fillA (l.map f) a (f v) k
  | 0 => rfl
  | k + 1 => by simp [fillA, List.map_set, fillA_map f l a v k]
theorem setAll_snoc : ∀ (vs l : List Value) (i : Nat) (v : Value), setAll l i (vs ++ [v]) = (setAll l i vs).set (i + vs.length) v
  | [], l, i, v => rfl
  | u :: vs, l, i, v => by
    show setAll (l.set i u) (i + 1) (vs ++ [v]) = (setAll (l.set i u) (i + 1) vs).set _ v
    rw [setAll_snoc vs, List.length_cons]
    congr 1
    omega
theorem setAll_replicate (l : List Value) (i : Nat) (v : Value) : ∀ k, setAll l i (List.replicate k v) = fillA l i v k
  | 0 => rfl
  | k + 1 => by rw [List.replicate_succ', setAll_snoc, setAll_replicate l i v k, List.length_replicate]; rfl
theorem clear_row (pre sp : List Value) (w : List Nat) (a k : Nat) (h : a + k ≤ w.length) : setAll (pre ++ (w.map uv ++ sp)) (pre.length + a * 1) (zerosL k y62) = pre ++ ((fillA w a 0 k).map uv ++ sp) := by
  rw [zerosU, Nat.mul_one, setAll_pre, setAll_post _ _ _ _ (by simp; omega), setAll_replicate, fillA_map]
theorem mem_fillA {α : Type} {l : List α} {a : Nat} {v x : α} : ∀ {k : Nat}, x ∈ fillA l a v k → x ∈ l ∨ x = v
  | 0, h => .inl h
  | k + 1, h => by
    rcases List.mem_or_eq_of_mem_set h with h' | h'
    · exact mem_fillA h'
    · exact .inr h'

theorem runF_spec : ∀ {f : Nat} {l : List Bool} {n : Int} {k s : Nat}, runF f l n k = some s → s < l.length ∧ n ≤ (seek true l s : Int) - (s : Int)
  | 0, _, _, _, _, h => by cases h
  | f + 1, l, n, k, s, h => by
    unfold runF at h
    split at h
    · rename_i h1
      split at h
      · rename_i h2
        cases h
        exact ⟨h1, h2⟩
      · exact runF_spec h
    · cases h
theorem runR_ok {l : List Bool} {n : Int} (h : (runR l n).2 = true) : ∃ k m : Nat, (runR l n).1 = k ∧ n = m ∧ 1 ≤ m ∧ k + m ≤ l.length := by
  unfold runR at *
  split at h
  · cases h
  · rename_i hn
    rw [if_neg hn]
    split at h
    · rename_i s hs
      obtain ⟨h1, h2⟩ := runF_spec hs
      have h3 := seek_le (v := true) (Nat.le_of_lt h1)
      exact ⟨s, n.toNat, rfl, by omega, by omega, by omega⟩
    · cases h

def takeOK (σ : StoreM) (owner n : Int) : Bool := decide (1 ≤ owner) && decide (1 ≤ n) && (runR σ.used n).2
def takeR (σ : StoreM) (owner n : Int) : Int × Int := if owner < 1 ∨ n < 1 then (0, 2) else if (runR σ.used n).2 = false then (0, 11) else ((runR σ.used n).1, 0)
def takeS (σ : StoreM) (owner n : Int) : StoreM := if takeOK σ owner n then
    { σ with w := fillA σ.w ((runR σ.used n).1.toNat * σ.size) 0 (n.toNat * σ.size), owner := fillA σ.owner (runR σ.used n).1.toNat owner n.toNat, used := fillL σ.used (runR σ.used n).1 n true } else σ
theorem fillL_len (l : List Bool) (a n : Int) (on : Bool) : (fillL l a n on).length = l.length := by
  unfold fillL; split
  · exact fillB_len _ _ _ _
  · rfl
theorem takeS_ok {σ : StoreM} (h : StoreOK σ) (owner n : Int) : StoreOK (takeS σ owner n) := by
  unfold takeS
  split
  · refine ⟨h.s1, h.s2, by simp only [fillA_len]; exact h.c1, by simp only [fillA_len]; exact h.c2, by simp only [fillA_len]; exact h.wl, by simp only [fillA_len, fillL_len]; exact h.ul, fun x hx => ?_⟩
    rcases mem_fillA hx with h' | rfl
    · exact h.wb x h'
    · decide
  · exact h

theorem takeRun_fn (S : Hp) (hS : Tab S) (p : Nat) (σ : StoreM) (owner n : Int) : FNs S prog F_store_Store_TakeRun #[.pointer (some ⟨p, 0, none⟩), iv owner, iv n] [Store p σ] (fun (_ : Unit) => .tuple #[iv (takeR σ owner n).1, iv (takeR σ owner n).2]) (fun _ => True) (fun _ => [Store p (takeS σ owner n)]) := by
  refine FNs_of_body func_store_Store_TakeRun rfl ntmps_store_Store_TakeRun rfl ?_
  intro R w0
  refine TC_seq ?_
  refine TC_region ?_
  refine TO_puresN 2 tys_of rfl (TO_nil ?_)
  refine TC_seq ?_
  refine TC_block ?_
  refine TC_seq ?_
  refine TC_region ?_
  refine TO_puresN 3 tys_of rfl (TO_nil ?_)
  refine TC_false rfl ?_
  refine TC_seq ?_
  refine TC_region ?_
  refine TO_puresN 1 tys_of rfl (TO_cons (TOp_bool tys_of rfl rfl (fun h16 => ?_) (fun h16 => ?_)))
  · -- t16 True: (Op.binOp BinOp.lss 3 (Operand.tmp 15) (Operand.const (Value.int IntKind.i64 1)) 3)
    try simp only [decide_eq_true_eq, decide_eq_false_iff_not, beq_iff_eq, bne_iff_ne, beq_eq_false_iff_ne, bne_eq_false_iff_eq, ne_eq, Bool.not_eq_true', Bool.not_eq_false', Decidable.not_not] at h16
    refine TO_puresN 5 tys_of rfl (TO_nil ?_)
    refine TC_true rfl ?_
    refine TC_seq ?_
    refine TC_region ?_
    refine TO_puresN 2 tys_of rfl (TO_nil ?_)
    refine TC_ret ?_
    repeat (first | refine TN_thenr ?_ | refine TN_blockr ?_)
    rw [show takeS σ owner n = σ by unfold takeS takeOK; rw [if_neg (by simp; omega)]]
    refine TN_rets tys_of () (.inl rfl) rfl (rs := [.tmp 6, .tmp 7]) rfl (vs := [_, _]) ⟨rfl, rfl, trivial⟩ (by rw [show takeR σ owner n = (0, 2) from if_pos (by omega)]; rfl) trivial
  · -- t16 False: (Op.binOp BinOp.lss 3 (Operand.tmp 15) (Operand.const (Value.int IntKind.i64 1)) 3)
    try simp only [decide_eq_true_eq, decide_eq_false_iff_not, beq_iff_eq, bne_iff_ne, beq_eq_false_iff_ne, bne_eq_false_iff_eq, ne_eq, Bool.not_eq_true', Bool.not_eq_false', Decidable.not_not] at h16
    refine TO_puresN 2 tys_of rfl (TO_cons (TOp_bool tys_of rfl rfl (fun h19 => ?_) (fun h19 => ?_)))
    · -- t19 True: (Op.binOp BinOp.lss 3 (Operand.tmp 18) (Operand.const (Value.int IntKind.i64 1)) 3)
      try simp only [decide_eq_true_eq, decide_eq_false_iff_not, beq_iff_eq, bne_iff_ne, beq_eq_false_iff_ne, bne_eq_false_iff_eq, ne_eq, Bool.not_eq_true', Bool.not_eq_false', Decidable.not_not] at h19
      refine TO_puresN 2 tys_of rfl (TO_nil ?_)
      refine TC_true rfl ?_
      refine TC_seq ?_
      refine TC_region ?_
      refine TO_puresN 2 tys_of rfl (TO_nil ?_)
      refine TC_ret ?_
      repeat (first | refine TN_thenr ?_ | refine TN_blockr ?_)
      rw [show takeS σ owner n = σ by unfold takeS takeOK; rw [if_neg (by simp; omega)]]
      refine TN_rets tys_of () (.inl rfl) rfl (rs := [.tmp 6, .tmp 7]) rfl (vs := [_, _]) ⟨rfl, rfl, trivial⟩ (by rw [show takeR σ owner n = (0, 2) from if_pos (by omega)]; rfl) trivial
    · -- t19 False: (Op.binOp BinOp.lss 3 (Operand.tmp 18) (Operand.const (Value.int IntKind.i64 1)) 3)
      try simp only [decide_eq_true_eq, decide_eq_false_iff_not, beq_iff_eq, bne_iff_ne, beq_eq_false_iff_ne, bne_eq_false_iff_eq, ne_eq, Bool.not_eq_true', Bool.not_eq_false', Decidable.not_not] at h19
      refine TN.unpack fun ⟨sw, so, q⟩ hx => ?_
      obtain ⟨hok, hw, ho⟩ := hx
      dsimp only at hw ho ⊢
      have hcc1 := hok.c2
      have hss := hok.s2
      have hw2 := hok.wl2
      have hul := hok.ul
      refine TO_puresN 2 tys_of rfl (TO_nil ?_)
      refine TC_false rfl ?_
      refine TC_skip ?_
      try refine TN_blockn ?_
      refine TC_seq ?_
      refine TC_region ?_
      refine TO_puresN 3 tys_of rfl (TO_cons (TOp_exact rfl (Ex_load tys_of rfl rfl rfl lies_find rfl) ?_))
      refine TO_puresN 1 tys_of rfl (TO_cons (TOp_calls rfl rfl cl_bitmap_Map_Run (run_fn _ hS q σ.used (by omega) n) fun y27 hy27 => ?_))
      refine TO_puresN 2 tys_of rfl (TO_cons (TOp_bool tys_of rfl rfl (fun h29 => ?_) (fun h29 => ?_)))
      · -- t29 True: (Op.extract (Operand.tmp 21) 1)
        try simp only [decide_eq_true_eq, decide_eq_false_iff_not, beq_iff_eq, bne_iff_ne, beq_eq_false_iff_ne, bne_eq_false_iff_eq, ne_eq, Bool.not_eq_true', Bool.not_eq_false', Decidable.not_not] at h29
        obtain ⟨a, m, ha1, rfl, hm1, ham⟩ := runR_ok h29
        rw [ha1]
        have htk : takeOK σ owner (m : Int) = true := by simp only [takeOK, h29]; simp; omega
        have htr : takeR σ owner (m : Int) = ((a : Int), 0) := by unfold takeR; rw [if_neg (by omega), if_neg (by rw [h29]; decide), ha1]
        have hts : takeS σ owner (m : Int) = { σ with w := fillA σ.w (a * σ.size) 0 (m * σ.size), owner := fillA σ.owner a owner m, used := fillL σ.used (a : Int) (m : Int) true } := by unfold takeS; rw [if_pos htk, ha1]; rfl
        have hpos : (a + m) * σ.size ≤ σ.w.length := by rw [hok.wl]; exact Nat.mul_le_mul_right _ (by omega)
        have hsum : (a + m) * σ.size = a * σ.size + m * σ.size := Nat.add_mul ..
        have hms : 1 ≤ m * σ.size := Nat.mul_pos hm1 hok.s1
        refine TO_puresN 2 tys_of rfl (TO_nil ?_)
        refine TC_seq ?_
        refine TC_seq ?_
        refine TC_region ?_
        refine TO_puresN 2 tys_of rfl (TO_nil ?_)
        refine TC_false rfl ?_
        refine TC_skip ?_
        refine TC_seq ?_
        refine TC_region ?_
        refine TO_puresN 3 tys_of rfl (TO_cons (TOp_exact rfl (Ex_load tys_of rfl rfl rfl lies_find rfl) ?_))
        refine TO_puresN 2 tys_of rfl (TO_cons (TOp_calls rfl rfl cl_bitmap_Map_Fill (fill_fn _ q σ.used (by omega) a m true) fun y38 hy38 => ?_))
        refine TO_puresN 0 tys_of rfl (TO_nil ?_)
        refine TC_seq ?_
        refine TC_seq ?_
        refine TC_region ?_
        refine TO_puresN 2 tys_of rfl (TO_nil ?_)
        refine TC_block ?_
        -- live: t0 t1 t2 t8 t9 t10 t11 t12 t13 t14 t15 t16 t17 t18 t19 t20 t21 t22 t23 t24 t25 t26 t27 t28 t29 t30 t31 t32 t33 t34 t35 t36 t37 t39 t54 t55 t56 t57 t58 t59 t60 t61 t62 t63 t64 t65 t66 t67 t68 t69 t70 t71 t72 t73
        refine TN.rowsame so (xs' := (fillA σ.owner a owner 0).map iv) rfl ?_
        refine TC_loopP (fun k => k ≤ m) (fun k => ⟨74, [], [(0, .pointer (some ⟨p, 0, none⟩)), (1, iv owner), (2, iv m), (8, iv a), (10, iv ((a + k : Nat) : Int))]⟩) (fun k => [cel p T_store_Store [sw.val, iv σ.size, so.val, .pointer (some ⟨q, 0, none⟩)], Row sw T_uint64 1 (σ.w.map uv), Row so T_int 1 ((fillA σ.owner a owner k).map iv), Bmp q (fillL σ.used a m true)]) (fun k => m - k) 0 (Nat.zero_le _) (Env.le_of_knows (by repeat first | exact trivial | refine ⟨rfl, ?_⟩)) ?_
        rintro k hk
        refine TC_seq ?_
        refine TC_seq ?_
        refine TC_region ?_
        refine TO_puresN 4 tys_of rfl ?_
        rw [wrap_i64 (by omega) (by omega)]
        refine TO_puresN 0 tys_of rfl (TO_cons (TOp_bool tys_of rfl rfl (fun h44 => ?_) (fun h44 => ?_)))
        · -- t44 True: (Op.binOp BinOp.lss 3 (Operand.tmp 40) (Operand.tmp 43) 3)
          try simp only [decide_eq_true_eq, decide_eq_false_iff_not, beq_iff_eq, bne_iff_ne, beq_eq_false_iff_ne, bne_eq_false_iff_eq, ne_eq, Bool.not_eq_true', Bool.not_eq_false', Decidable.not_not] at h44
          refine TN.rowopen so (by omega) fun g pre sp ha hrow => ?_
          refine TO_puresN 0 tys_of rfl (TO_nil ?_)
          refine TC_true rfl ?_
          refine TC_skip ?_
          refine TC_seq ?_
          refine TC_block ?_
          refine TC_region ?_
          refine TO_puresN 3 tys_of rfl (TO_cons (TOp_exact rfl (Ex_load tys_of rfl rfl rfl lies_find rfl) ?_))
          refine TO_puresN 2 tys_of rfl (TO_cons (TOp_exact rfl (Ex_indexS (sz := 1) tys_of rfl rfl ha rfl rfl rfl (by omega)) ?_))
          skip
          refine TO_puresN 0 tys_of rfl (TO_cons (TOp_storeRow (j := a + k) tys_of rfl rfl rfl rfl rfl rfl rfl (by simp [fillA_len]; omega) ?_))
          rw [← List.map_set, show (fillA σ.owner a owner k).set (a + k) owner = fillA σ.owner a owner (k + 1) from rfl]
          refine TN.rowclose (hrow.set ((fillA σ.owner a owner (k + 1)).map iv) (by simp [fillA_len]) (cells_iv _)) ?_
          refine TO_puresN 0 tys_of rfl (TO_nil ?_)
          try refine TN_blockn ?_
          refine TC_region ?_
          refine TO_puresN 2 tys_of rfl ?_
          try rw [wrap_i64 (by omega) (by omega)]
          refine TO_puresN 1 tys_of rfl (TO_nil ?_)
          refine TN_againP (k + 1) (by omega) (by omega) (Env.le_of_knows (by repeat first | exact trivial | refine ⟨rfl, ?_⟩))
        · -- t44 False: (Op.binOp BinOp.lss 3 (Operand.tmp 40) (Operand.tmp 43) 3)
          try simp only [decide_eq_true_eq, decide_eq_false_iff_not, beq_iff_eq, bne_iff_ne, beq_eq_false_iff_ne, bne_eq_false_iff_eq, ne_eq, Bool.not_eq_true', Bool.not_eq_false', Decidable.not_not] at h44
          refine TO_puresN 0 tys_of rfl (TO_nil ?_)
          refine TC_false rfl ?_
          refine TC_exit ?_
          repeat refine TN_thenx ?_
          refine TN_exit ?_
          refine TC_seq ?_
          have hkm : m = k := by omega
          subst hkm
          refine TN.rowopen sw (by omega) fun g pre sp ha hrow => ?_
          refine TC_draw (by kernel_rfl) (sep [cel p T_store_Store [sw.val, iv σ.size, so.val, .pointer (some ⟨q, 0, none⟩)]]) 20 ?_
          refine TA_reads (fuel := 1) [0, 1, 2, 3, 4, 5, 6, 7, 8, 9, 10, 11, 12, 13, 14, 15, 16, 17, 18] rfl (fun _ _ _ h => h) (by decide +kernel) (by decide +kernel) (by decide +kernel) (by decide +kernel) ent_takes ?_
          refine TR_puresN 3 tys_of rfl (TR_exact rfl (Ex_load tys_of rfl rfl rfl keep_find rfl) ?_)
          refine TR_puresN 4 tys_of rfl (TR_exact rfl (Ex_load tys_of rfl rfl rfl keep_find rfl) ?_)
          refine TR_puresN 1 tys_of rfl ?_
          rw [← Int.natCast_mul, wrap_i64 (by omega) (by omega)]
          refine TR_puresN 3 tys_of rfl ?_
          rw [wrap_i64 (by omega) (by omega), ← Int.natCast_add]
          refine TR_puresN 3 tys_of rfl (TR_exact rfl (Ex_load tys_of rfl rfl rfl keep_find rfl) ?_)
          refine TR_puresN 1 tys_of rfl ?_
          rw [← Int.natCast_mul, wrap_i64 (by omega) (by omega)]
          refine TR_puresN 0 tys_of rfl (TR_exact rfl (Ex_sliceS (sz := 1) tys_of rfl rfl ha (l := a * σ.size) (by exact ⟨_, rfl⟩) (h := (a + m) * σ.size) (by exact ⟨_, rfl⟩) (m := sw.cap) (by exact rfl) (by simp) rfl rfl (by rfl) (by omega) (by have := hrow.2.2.1; omega) (Nat.le_refl _)) ?_)
          rw [if_neg (by have := hrow.2.2.1; omega), show (a + m) * σ.size - a * σ.size = m * σ.size by omega]
          refine TR_puresN 0 tys_of rfl (TR_done ?_)
          refine TA_one (fuel := 0) 19 (by decide +kernel) (TOp_clear tys_of rfl rfl rfl rfl rfl rfl rfl rfl rfl (by show pre.length + a * σ.size * 1 + m * σ.size * 1 ≤ _; simp; omega) ?_)
          refine TN.same g (l' := pre ++ ((fillA σ.w (a * σ.size) 0 (m * σ.size)).map uv ++ sp)) (clear_row _ _ _ _ _ (by omega)) ?_
          refine TN.rowclose (hrow.set ((fillA σ.w (a * σ.size) 0 (m * σ.size)).map uv) (by simp [fillA_len]) (cells_uv _)) ?_
          refine TB_low ent_takes ?_
          refine TA_nil ?_ (by decide +kernel)
          refine TC_seq ?_
          refine TC_region ?_
          refine TO_puresN 3 tys_of rfl (TO_nil ?_)
          refine TC_ret ?_
          repeat (first | refine TN_thenr ?_ | refine TN_blockr ?_)
          rw [htr, hts]
          refine TN.fold (Store p { σ with w := fillA σ.w (a * σ.size) 0 (m * σ.size), owner := fillA σ.owner a owner m, used := fillL σ.used (a : Int) (m : Int) true }) (ent_pack (sw, so, q) ⟨hts ▸ takeS_ok hok owner m, by simp only [fillA_len]; exact hw, by simp only [fillA_len]; exact ho⟩) ?_
          refine TN_rets tys_of () (.inl rfl) rfl (rs := [.tmp 6, .tmp 7]) rfl (vs := [_, _]) ⟨rfl, rfl, trivial⟩ rfl trivial
      · -- t29 False: (Op.extract (Operand.tmp 21) 1)
        try simp only [decide_eq_true_eq, decide_eq_false_iff_not, beq_iff_eq, bne_iff_ne, beq_eq_false_iff_ne, bne_eq_false_iff_eq, ne_eq, Bool.not_eq_true', Bool.not_eq_false', Decidable.not_not] at h29
        refine TO_puresN 2 tys_of rfl (TO_nil ?_)
        refine TC_seq ?_
        refine TC_seq ?_
        refine TC_region ?_
        refine TO_puresN 2 tys_of rfl (TO_nil ?_)
        refine TC_true rfl ?_
        refine TC_seq ?_
        refine TC_region ?_
        refine TO_puresN 2 tys_of rfl (TO_nil ?_)
        refine TC_ret ?_
        repeat (first | refine TN_thenr ?_ | refine TN_blockr ?_)
        have htk : takeS σ owner n = σ := by unfold takeS takeOK; rw [h29]; simp
        rw [htk]
        refine TN.fold (Store p σ) (ent_pack (sw, so, q) ⟨hok, hw, ho⟩) ?_
        refine TN_rets tys_of () (.inl rfl) rfl (rs := [.tmp 6, .tmp 7]) rfl (vs := [_, _]) ⟨rfl, rfl, trivial⟩ (by rw [show takeR σ owner n = (0, 11) by unfold takeR; rw [if_neg (by omega), if_pos h29]]; rfl) trivial
end Go.Sl.Tz

/-
  The contracts of package bump. By mk.py out of spec/SlBump.spec.
-/
namespace Go.Sl.Tz
open Go Go.Proofs Go.Sl
set_option maxRecDepth 100000

/-- What is packed is opened, wherever it stands. -/
theorem TN.openP {Γ : Ctx} {K : Act → World → Prop} {E : Env} {M R : List HProp} (A : HProp) {ι : Sort _} {φ : ι → Prop} {L : ι → List HProp} (hA : A = Pack φ L) [ht : Take1 A M R] (h : ∀ x, φ x → TN Γ K E (sep (L x ++ R))) : TN Γ K E (sep M) := by
  rw [ht.out, hA]
  exact TN.unpack h

structure SpaceM where
  owner : Int
  parts : List (Int × Int)
  at_ : Int
  end_ : Int
def partC (x : Int × Int) : List Value := [iv x.1, iv x.2]
structure SpaceOK (π : SpaceM) : Prop where
  a1 : 0 ≤ π.at_
  a2 : π.at_ ≤ 2 ^ 40
  e1 : 0 ≤ π.end_
  e2 : π.end_ ≤ 2 ^ 40
def Space (p st : Nat) (π : SpaceM) : HProp := Pack (fun x : Slc => SpaceOK π ∧ π.parts.length = x.n)
  (fun x => [cel p T_bump_Space [.pointer (some ⟨st, 0, none⟩), iv π.owner, x.val, iv π.at_, iv π.end_], Row x T_bump_part 2 (π.parts.flatMap partC)])
def space0 (owner : Int) : SpaceM := ⟨owner, [], 0, 0⟩

theorem bumpNew_fn (S : Hp) (st : Nat) (owner : Int) : FNs S prog F_bump_New #[.pointer (some ⟨st, 0, none⟩), iv owner] [] (fun o : Option Nat => .tuple #[optP o, iv (optE 2 o)]) (fun o => o.isSome = true ↔ 1 ≤ owner) (fun o => match o with | none => [] | some p => [Space p st (space0 owner)]) := by
  refine FNs_of_body func_bump_New rfl ntmps_bump_New rfl ?_
  intro R w0
  refine TC_seq ?_
  refine TC_region ?_
  refine TO_puresN 2 tys_of rfl (TO_nil ?_)
  refine TC_seq ?_
  refine TC_block ?_
  refine TC_seq ?_
  refine TC_region ?_
  refine TO_puresN 3 tys_of rfl (TO_nil ?_)
  refine TC_false rfl ?_
  refine TC_seq ?_
  refine TC_region ?_
  refine TO_puresN 1 tys_of rfl (TO_cons (TOp_bool tys_of rfl rfl (fun h11 => ?_) (fun h11 => ?_)))
  · -- t11 True: (Op.binOp BinOp.lss 3 (Operand.tmp 10) (Operand.const (Value.int IntKind.i64 1)) 3)
    try simp only [decide_eq_true_eq, decide_eq_false_iff_not, beq_iff_eq, bne_iff_ne, beq_eq_false_iff_ne, bne_eq_false_iff_eq, ne_eq, Bool.not_eq_true', Bool.not_eq_false', Decidable.not_not] at h11
    refine TO_puresN 1 tys_of rfl (TO_nil ?_)
    refine TC_true rfl ?_
    refine TC_seq ?_
    refine TC_region ?_
    refine TO_puresN 2 tys_of rfl (TO_nil ?_)
    refine TC_ret ?_
    repeat (first | refine TN_thenr ?_ | refine TN_blockr ?_)
    refine TN_rets tys_of none (.inl rfl) rfl (rs := [.tmp 4, .tmp 5]) rfl (vs := [_, _]) ⟨rfl, rfl, trivial⟩ rfl (by simp; omega)
  · -- t11 False: (Op.binOp BinOp.lss 3 (Operand.tmp 10) (Operand.const (Value.int IntKind.i64 1)) 3)
    try simp only [decide_eq_true_eq, decide_eq_false_iff_not, beq_iff_eq, bne_iff_ne, beq_eq_false_iff_ne, bne_eq_false_iff_eq, ne_eq, Bool.not_eq_true', Bool.not_eq_false', Decidable.not_not] at h11
    refine TO_puresN 1 tys_of rfl (TO_nil ?_)
    refine TC_false rfl ?_
    refine TC_skip ?_
    try refine TN_blockn ?_
    refine TC_seq ?_
    refine TC_region ?_
    refine TO_puresN 3 tys_of rfl (TO_cons (TOp_box rfl rfl rfl fun b15 => ?_))
    refine TN.same b15 (l' := [.pointer (some ⟨st, 0, none⟩), iv (space0 owner).owner, nilS.val, iv (space0 owner).at_, iv (space0 owner).end_]) rfl ?_
    refine TO_puresN 2 tys_of rfl (TO_nil ?_)
    refine TC_ret ?_
    repeat (first | refine TN_thenr ?_ | refine TN_blockr ?_)
    refine TN.nilrow T_bump_part 2 (xs := (space0 owner).parts.flatMap partC) rfl ?_
    refine TN.fold (Space b15 st (space0 owner)) (ent_pack nilS ⟨⟨Int.le_refl 0, show (0 : Int) ≤ 2 ^ 40 by decide, Int.le_refl 0, show (0 : Int) ≤ 2 ^ 40 by decide⟩, rfl⟩) ?_
    refine TN_rets tys_of (some b15) (.inl rfl) rfl (rs := [.tmp 4, .tmp 5]) rfl (vs := [_, _]) ⟨rfl, rfl, trivial⟩ rfl (by simp; omega)

theorem room_fn (S : Hp) (p st : Nat) (π : SpaceM) : FNs S prog F_bump_Space_Room #[.pointer (some ⟨p, 0, none⟩)] [Space p st π] (fun _ : Unit => iv (π.end_ - π.at_)) (fun _ => True) (fun _ => [Space p st π]) := by
  refine FNs_of_body func_bump_Space_Room rfl ntmps_bump_Space_Room rfl ?_
  intro R w0
  refine TN.unpack fun s hx => ?_
  obtain ⟨hok, hn⟩ := hx
  obtain ⟨ha1, ha2, he1, he2⟩ := hok
  refine TC_seq ?_
  refine TC_region ?_
  refine TO_puresN 1 tys_of rfl (TO_nil ?_)
  refine TC_seq ?_
  refine TC_seq ?_
  refine TC_region ?_
  refine TO_puresN 2 tys_of rfl (TO_nil ?_)
  refine TC_false rfl ?_
  refine TC_skip ?_
  refine TC_seq ?_
  refine TC_draw (by kernel_rfl) (sep [cel p T_bump_Space [.pointer (some ⟨st, 0, none⟩), iv π.owner, s.val, iv π.at_, iv π.end_]]) 10 ?_
  refine TA_reads (fuel := 0) [0, 1, 2, 3, 4, 5, 6, 7, 8, 9] rfl (fun _ _ _ h => h) (by decide +kernel) (by decide +kernel) (by decide +kernel) (by decide +kernel) ent_takes ?_
  refine TR_puresN 3 tys_of rfl (TR_exact rfl (Ex_load tys_of rfl rfl rfl keep_find rfl) ?_)
  refine TR_puresN 3 tys_of rfl (TR_exact rfl (Ex_load tys_of rfl rfl rfl keep_find rfl) ?_)
  refine TR_puresN 1 tys_of rfl ?_
  rw [wrap_i64 (by omega) (by omega)]
  refine TR_puresN 1 tys_of rfl (TR_done ?_)
  refine TA_nil ?_ (by decide +kernel)
  refine TC_ret ?_
  repeat (first | refine TN_thenr ?_ | refine TN_blockr ?_)
  refine TN.fold (Space p st π) (ent_pack s ⟨⟨ha1, ha2, he1, he2⟩, hn⟩) ?_
  refine TN_rets tys_of () (.inl rfl) rfl (rs := [.tmp 2]) rfl (vs := [_]) ⟨rfl, trivial⟩ rfl trivial

def runs (σ : StoreM) (n : Int) : Int := (((n - 1).toNat / σ.size : Nat) : Int) + 1
def allocR (σ : StoreM) (π : SpaceM) (n : Int) : Int × Int :=
  if n < 1 then (0, 2) else if n ≤ π.end_ - π.at_ then (π.at_, 0) else if (takeR σ π.owner (runs σ n)).2 = 0 then ((takeR σ π.owner (runs σ n)).1 * σ.size, 0) else (0, (takeR σ π.owner (runs σ n)).2)
def allocSt (σ : StoreM) (π : SpaceM) (n : Int) : StoreM := if n < 1 ∨ n ≤ π.end_ - π.at_ then σ else takeS σ π.owner (runs σ n)
def allocSp (σ : StoreM) (π : SpaceM) (n : Int) : SpaceM :=
  if n < 1 then π else if n ≤ π.end_ - π.at_ then { π with at_ := π.at_ + n }
  else if (takeR σ π.owner (runs σ n)).2 = 0 then
    (if runs σ n = 1 then ⟨π.owner, π.parts ++ [((takeR σ π.owner (runs σ n)).1, runs σ n)], (takeR σ π.owner (runs σ n)).1 * σ.size + n, ((takeR σ π.owner (runs σ n)).1 + 1) * σ.size⟩
     else ⟨π.owner, π.parts ++ [((takeR σ π.owner (runs σ n)).1, runs σ n)], π.at_, π.end_⟩) else π
theorem takeR_ok {σ : StoreM} {o k : Int} (h : (takeR σ o k).2 = 0) : ∃ a m : Nat, (takeR σ o k).1 = a ∧ k = m ∧ 1 ≤ m ∧ a + m ≤ σ.used.length := by
  unfold takeR at *
  split at h
  · cases h
  · rename_i h1
    rw [if_neg h1]
    split at h
    · cases h
    · rename_i h2
      rw [if_neg h2]
      have h3 : (runR σ.used k).2 = true := by simpa using h2
      obtain ⟨a, m, e1, e2, e3, e4⟩ := runR_ok h3
      exact ⟨a, m, e1, e2, e3, e4⟩

theorem alloc_fn (S : Hp) (hS : Tab S) (p st : Nat) (σ : StoreM) (π : SpaceM) (hb : π.parts.length < 2 ^ 31) (n : Int) (hn62 : n ≤ 2 ^ 62) (hok0 : StoreOK σ) :
    FNs S prog F_bump_Space_Alloc #[.pointer (some ⟨p, 0, none⟩), iv n] [Space p st π, Store st σ] (fun _ : Unit => .tuple #[iv (allocR σ π n).1, iv (allocR σ π n).2]) (fun _ => True) (fun _ => [Space p st (allocSp σ π n), Store st (allocSt σ π n)]) := by
  refine FNs_of_body func_bump_Space_Alloc rfl ntmps_bump_Space_Alloc rfl ?_
  intro R w0
  refine TC_seq ?_
  refine TC_region ?_
  refine TO_puresN 2 tys_of rfl (TO_nil ?_)
  refine TC_seq ?_
  refine TC_block ?_
  refine TC_seq ?_
  refine TC_region ?_
  refine TO_puresN 3 tys_of rfl (TO_nil ?_)
  refine TC_false rfl ?_
  refine TC_seq ?_
  refine TC_region ?_
  refine TO_puresN 1 tys_of rfl (TO_cons (TOp_bool tys_of rfl rfl (fun h15 => ?_) (fun h15 => ?_)))
  · -- t15 True: (Op.binOp BinOp.lss 3 (Operand.tmp 14) (Operand.const (Value.int IntKind.i64 1)) 3)
    try simp only [decide_eq_true_eq, decide_eq_false_iff_not, beq_iff_eq, bne_iff_ne, beq_eq_false_iff_ne, bne_eq_false_iff_eq, ne_eq, Bool.not_eq_true', Bool.not_eq_false', Decidable.not_not] at h15
    refine TO_puresN 1 tys_of rfl (TO_nil ?_)
    refine TC_true rfl ?_
    refine TC_seq ?_
    refine TC_region ?_
    refine TO_puresN 2 tys_of rfl (TO_nil ?_)
    refine TC_ret ?_
    repeat (first | refine TN_thenr ?_ | refine TN_blockr ?_)
    rw [show allocSp σ π n = π from if_pos (by omega), show allocSt σ π n = σ from if_pos (.inl (by omega))]
    refine TN_rets tys_of () (.inl rfl) rfl (rs := [.tmp 4, .tmp 5]) rfl (vs := [_, _]) ⟨rfl, rfl, trivial⟩ (by rw [show allocR σ π n = (0, 2) from if_pos (by omega)]; rfl) trivial
  · -- t15 False: (Op.binOp BinOp.lss 3 (Operand.tmp 14) (Operand.const (Value.int IntKind.i64 1)) 3)
    try simp only [decide_eq_true_eq, decide_eq_false_iff_not, beq_iff_eq, bne_iff_ne, beq_eq_false_iff_ne, bne_eq_false_iff_eq, ne_eq, Bool.not_eq_true', Bool.not_eq_false', Decidable.not_not] at h15
    refine TO_puresN 1 tys_of rfl (TO_nil ?_)
    refine TC_false rfl ?_
    refine TC_seq ?_
    refine TC_region ?_
    refine TO_puresN 2 tys_of rfl (TO_cons (TOp_calls rfl rfl cl_bump_Space_Room (room_fn _ p st π) fun y19 hy19 => ?_))
    refine TO_puresN 0 tys_of rfl (TO_cons (TOp_bool tys_of rfl rfl (fun h20 => ?_) (fun h20 => ?_)))
    · -- t20 True: (Op.binOp BinOp.leq 3 (Operand.tmp 17) (Operand.tmp 19) 3)
      try simp only [decide_eq_true_eq, decide_eq_false_iff_not, beq_iff_eq, bne_iff_ne, beq_eq_false_iff_ne, bne_eq_false_iff_eq, ne_eq, Bool.not_eq_true', Bool.not_eq_false', Decidable.not_not] at h20
      refine TN.openP (Space p st π) rfl fun s hx => ?_
      obtain ⟨⟨ha1, ha2, he1, he2⟩, hn⟩ := hx
      refine TO_puresN 1 tys_of rfl (TO_nil ?_)
      refine TC_true rfl ?_
      refine TC_seq ?_
      refine TC_region ?_
      refine TO_puresN 3 tys_of rfl (TO_cons (TOp_exact rfl (Ex_load tys_of rfl rfl rfl lies_find rfl) ?_))
      refine TO_puresN 2 tys_of rfl ?_
      rw [wrap_i64 (by omega) (by omega)]
      refine TO_puresN 2 tys_of rfl (TO_cons (TOp_store tys_of rfl rfl rfl rfl rfl rfl rfl rfl ?_))
      refine TN.same p (l' := [.pointer (some ⟨st, 0, none⟩), iv π.owner, s.val, iv (π.at_ + n), iv π.end_]) rfl ?_
      refine TO_puresN 0 tys_of rfl (TO_nil ?_)
      refine TC_seq ?_
      refine TC_region ?_
      refine TO_puresN 3 tys_of rfl (TO_cons (TOp_exact rfl (Ex_load tys_of rfl rfl rfl lies_find rfl) ?_))
      refine TO_puresN 2 tys_of rfl ?_
      rw [wrap_i64 (by omega) (by omega), show π.at_ + n - n = π.at_ by omega]
      refine TO_puresN 2 tys_of rfl (TO_nil ?_)
      refine TC_ret ?_
      repeat (first | refine TN_thenr ?_ | refine TN_blockr ?_)
      rw [show allocSp σ π n = ⟨π.owner, π.parts, π.at_ + n, π.end_⟩ by unfold allocSp; rw [if_neg h15, if_pos h20], show allocSt σ π n = σ from if_pos (.inr h20)]
      refine TN.fold (Space p st ⟨π.owner, π.parts, π.at_ + n, π.end_⟩) (ent_pack s ⟨⟨show 0 ≤ π.at_ + n by omega, show π.at_ + n ≤ 2 ^ 40 by omega, he1, he2⟩, hn⟩) ?_
      refine TN_rets tys_of () (.inl rfl) rfl (rs := [.tmp 4, .tmp 5]) rfl (vs := [_, _]) ⟨rfl, rfl, trivial⟩ (by rw [show allocR σ π n = (π.at_, 0) by unfold allocR; rw [if_neg h15, if_pos h20]]; rfl) trivial
    · -- t20 False: (Op.binOp BinOp.leq 3 (Operand.tmp 17) (Operand.tmp 19) 3)
      try simp only [decide_eq_true_eq, decide_eq_false_iff_not, beq_iff_eq, bne_iff_ne, beq_eq_false_iff_ne, bne_eq_false_iff_eq, ne_eq, Bool.not_eq_true', Bool.not_eq_false', Decidable.not_not] at h20
      refine TN.openP (Space p st π) rfl fun s hx => ?_
      obtain ⟨⟨ha1, ha2, he1, he2⟩, hn⟩ := hx
      have hs1 := hok0.s1
      have hs2 := hok0.s2
      have hc2 := hok0.c2
      have hul := hok0.ul
      refine TO_puresN 1 tys_of rfl (TO_nil ?_)
      refine TC_false rfl ?_
      refine TC_skip ?_
      try refine TN_blockn ?_
      refine TC_seq ?_
      refine TC_region ?_
      refine TO_puresN 3 tys_of rfl (TO_cons (TOp_exact rfl (Ex_load tys_of rfl rfl rfl lies_find rfl) ?_))
      refine TO_puresN 0 tys_of rfl (TO_cons (TOp_calls rfl rfl cl_store_Store_Words (words_fn _ st σ) fun y39 hy39 => ?_))
      refine TO_puresN 1 tys_of rfl (TO_nil ?_)
      refine TC_seq ?_
      refine TC_region ?_
      refine TO_puresN 2 tys_of rfl ?_
      rw [wrap_i64 (by omega) (by omega), show n - 1 = (((n - 1).toNat : Nat) : Int) by omega]
      refine TO_puresN 1 tys_of rfl (TO_cons (TOp_exact rfl (Ex_quo rfl rfl rfl (by omega)) ?_))
      rw [quo_natd _ _ (by omega)]
      refine TO_puresN 1 tys_of rfl ?_
      have hdiv := Nat.div_le_self (n - 1).toNat σ.size
      rw [show IntKind.i64.wrap ((((n - 1).toNat / σ.size : Nat) : Int) + 1) = runs σ n by unfold runs; generalize (n - 1).toNat / σ.size = q at *; exact wrap_i64 (by omega) (by omega)]
      refine TO_puresN 1 tys_of rfl (TO_nil ?_)
      refine TC_seq ?_
      refine TC_draw (by kernel_rfl) (sep [cel p T_bump_Space [.pointer (some ⟨st, 0, none⟩), iv π.owner, s.val, iv π.at_, iv π.end_]]) 15 ?_
      refine TA_reads (fuel := 6) [0, 1, 2, 3, 4, 5, 6, 7, 8] rfl (fun _ _ _ h => h) (by decide +kernel) (by decide +kernel) (by decide +kernel) (by decide +kernel) ent_takes ?_
      refine TR_puresN 3 tys_of rfl (TR_exact rfl (Ex_load tys_of rfl rfl rfl keep_find rfl) ?_)
      refine TR_puresN 3 tys_of rfl (TR_exact rfl (Ex_load tys_of rfl rfl rfl keep_find rfl) ?_)
      refine TR_puresN 1 tys_of rfl (TR_done ?_)
      refine TA_one (fuel := 5) 9 (by decide +kernel) (TOp_calls rfl rfl cl_store_Store_TakeRun (takeRun_fn _ hS st σ π.owner (runs σ n)) fun y55 hy55 => ?_)
      refine TB_low ent_takes ?_
      refine TA_frees (fuel := 0) [10, 11, 12, 13, 14] rfl (fun _ _ _ h => h) (by decide +kernel) ?_
      refine TR_puresN 5 tys_of rfl (TR_done ?_)
      refine TA_nil ?_ (by decide +kernel)
      refine TC_seq ?_
      refine TC_seq ?_
      refine TC_region ?_
      refine TO_puresN 1 tys_of rfl (TO_cons (TOp_bool tys_of rfl rfl (fun h59 => ?_) (fun h59 => ?_)))
      · -- t59 True: (Op.binOp BinOp.neq 40 (Operand.tmp 58) (Operand.const (Value.int IntKind.i64 0)) 40)
        try simp only [decide_eq_true_eq, decide_eq_false_iff_not, beq_iff_eq, bne_iff_ne, beq_eq_false_iff_ne, bne_eq_false_iff_eq, ne_eq, Bool.not_eq_true', Bool.not_eq_false', Decidable.not_not] at h59
        refine TO_puresN 0 tys_of rfl (TO_nil ?_)
        refine TC_true rfl ?_
        refine TC_seq ?_
        refine TC_region ?_
        refine TO_puresN 3 tys_of rfl (TO_nil ?_)
        refine TC_ret ?_
        repeat (first | refine TN_thenr ?_ | refine TN_blockr ?_)
        rw [show allocSp σ π n = π by unfold allocSp; rw [if_neg h15, if_neg h20, if_neg h59], show allocSt σ π n = takeS σ π.owner (runs σ n) from if_neg (by omega)]
        refine TN.fold (Space p st π) (ent_pack s ⟨⟨ha1, ha2, he1, he2⟩, hn⟩) ?_
        refine TN_rets tys_of () (.inl rfl) rfl (rs := [.tmp 4, .tmp 5]) rfl (vs := [_, _]) ⟨rfl, rfl, trivial⟩ (by rw [show allocR σ π n = (0, (takeR σ π.owner (runs σ n)).2) by unfold allocR; rw [if_neg h15, if_neg h20, if_neg h59]]; rfl) trivial
      · -- t59 False: (Op.binOp BinOp.neq 40 (Operand.tmp 58) (Operand.const (Value.int IntKind.i64 0)) 40)
        try simp only [decide_eq_true_eq, decide_eq_false_iff_not, beq_iff_eq, bne_iff_ne, beq_eq_false_iff_ne, bne_eq_false_iff_eq, ne_eq, Bool.not_eq_true', Bool.not_eq_false', Decidable.not_not] at h59
        obtain ⟨a, m, hr1, hr2, hm, ham⟩ := takeR_ok h59
        rw [hr1]
        have hprod := mul_le_million (c := a) (w := σ.size) (by omega) hs2
        have hprod2 : (a + 1) * σ.size ≤ 1049600 := by have := Nat.mul_le_mul (show a + 1 ≤ 1025 by omega) hs2; omega
        have hpr : ((a : Int) * σ.size) = ((a * σ.size : Nat) : Int) := by simp
        have hpr2 : (((a : Int) + 1) * σ.size) = (((a + 1) * σ.size : Nat) : Int) := by simp
        refine TO_puresN 0 tys_of rfl (TO_nil ?_)
        refine TC_false rfl ?_
        refine TC_skip ?_
        refine TC_seq ?_
        refine TC_region ?_
        refine TO_puresN 4 tys_of rfl (TO_cons (TOp_exact rfl (Ex_load tys_of rfl rfl rfl lies_find rfl) ?_))
        refine TO_puresN 3 tys_of rfl (TO_cons (TOp_buildSliceA tys_of rfl rfl rfl rfl rfl rfl rfl (cells := (partC ((a : Int), runs σ n))) rfl fun b69 => ?_))
        refine TO_puresN 0 tys_of rfl (TO_cons (TOp_append1 (s := s) tys_of rfl rfl rfl rfl rfl rfl rfl rfl rfl rfl (by rfl) rfl rfl rfl rfl rfl (by omega) fun s70 hs70 => ?_))
        refine TN.rowsame s70 (xs' := (π.parts ++ [((a : Int), runs σ n)]).flatMap partC) (by simp [partC]) ?_
        refine TO_puresN 2 tys_of rfl (TO_cons (TOp_store tys_of rfl rfl rfl rfl rfl rfl rfl rfl ?_))
        refine TN.same p (l' := [.pointer (some ⟨st, 0, none⟩), iv π.owner, s70.val, iv π.at_, iv π.end_]) rfl ?_
        refine TO_puresN 0 tys_of rfl (TO_nil ?_)
        refine TC_seq ?_
        refine TC_seq ?_
        refine TC_region ?_
        refine TO_puresN 1 tys_of rfl (TO_cons (TOp_bool tys_of rfl rfl (fun h74 => ?_) (fun h74 => ?_)))
        · -- t74 True: (Op.binOp BinOp.eql 3 (Operand.tmp 73) (Operand.const (Value.int IntKind.i64 1)) 3)
          try simp only [decide_eq_true_eq, decide_eq_false_iff_not, beq_iff_eq, bne_iff_ne, beq_eq_false_iff_ne, bne_eq_false_iff_eq, ne_eq, Bool.not_eq_true', Bool.not_eq_false', Decidable.not_not] at h74
          have hn1 : (n - 1).toNat / σ.size = 0 := by unfold runs at h74; omega
          have hn2 : (n - 1).toNat < σ.size := by rcases Nat.div_eq_zero_iff.1 hn1 with h | h; omega; exact h
          refine TO_puresN 0 tys_of rfl (TO_nil ?_)
          refine TC_true rfl ?_
          refine TC_region ?_
          refine TO_puresN 5 tys_of rfl ?_
          rw [wrap_i64 (by omega) (by omega)]
          refine TO_puresN 2 tys_of rfl ?_
          rw [wrap_i64 (by omega) (by omega)]
          refine TO_puresN 2 tys_of rfl ?_
          rw [wrap_i64 (by omega) (by omega)]
          refine TO_puresN 2 tys_of rfl ?_
          rw [wrap_i64 (by omega) (by omega)]
          refine TO_puresN 2 tys_of rfl (TO_cons (TOp_store tys_of rfl rfl rfl rfl rfl rfl rfl rfl ?_))
          refine TN.same p (l' := [.pointer (some ⟨st, 0, none⟩), iv π.owner, s70.val, iv ((a : Int) * σ.size + n), iv π.end_]) rfl ?_
          refine TO_puresN 2 tys_of rfl (TO_cons (TOp_store tys_of rfl rfl rfl rfl rfl rfl rfl rfl ?_))
          refine TN.same p (l' := [.pointer (some ⟨st, 0, none⟩), iv π.owner, s70.val, iv ((a : Int) * σ.size + n), iv (((a : Int) + 1) * σ.size)]) rfl ?_
          refine TO_puresN 0 tys_of rfl (TO_nil ?_)
          refine TC_seq ?_
          refine TC_region ?_
          refine TO_puresN 3 tys_of rfl ?_
          rw [wrap_i64 (by omega) (by omega)]
          refine TO_puresN 2 tys_of rfl (TO_nil ?_)
          refine TC_ret ?_
          repeat (first | refine TN_thenr ?_ | refine TN_blockr ?_)
          rw [show allocSp σ π n = ⟨π.owner, π.parts ++ [((a : Int), runs σ n)], (a : Int) * σ.size + n, ((a : Int) + 1) * σ.size⟩ by unfold allocSp; rw [if_neg h15, if_neg h20, if_pos h59, if_pos h74, hr1], show allocSt σ π n = takeS σ π.owner (runs σ n) from if_neg (by omega)]
          refine TN.fold (Space p st ⟨π.owner, π.parts ++ [((a : Int), runs σ n)], (a : Int) * σ.size + n, ((a : Int) + 1) * σ.size⟩) (ent_pack s70 ⟨⟨by dsimp only; omega, by dsimp only; omega, by dsimp only; omega, by dsimp only; omega⟩, by simp [hn, hs70]⟩) ?_
          refine TN_rets tys_of () (.inl rfl) rfl (rs := [.tmp 4, .tmp 5]) rfl (vs := [_, _]) ⟨rfl, rfl, trivial⟩ (by rw [show allocR σ π n = ((a : Int) * σ.size, 0) by unfold allocR; rw [if_neg h15, if_neg h20, if_pos h59, hr1]]; rfl) trivial
        · -- t74 False: (Op.binOp BinOp.eql 3 (Operand.tmp 73) (Operand.const (Value.int IntKind.i64 1)) 3)
          try simp only [decide_eq_true_eq, decide_eq_false_iff_not, beq_iff_eq, bne_iff_ne, beq_eq_false_iff_ne, bne_eq_false_iff_eq, ne_eq, Bool.not_eq_true', Bool.not_eq_false', Decidable.not_not] at h74
          refine TO_puresN 0 tys_of rfl (TO_nil ?_)
          refine TC_false rfl ?_
          refine TC_skip ?_
          refine TC_seq ?_
          refine TC_region ?_
          refine TO_puresN 3 tys_of rfl ?_
          rw [wrap_i64 (by omega) (by omega)]
          refine TO_puresN 2 tys_of rfl (TO_nil ?_)
          refine TC_ret ?_
          repeat (first | refine TN_thenr ?_ | refine TN_blockr ?_)
          rw [show allocSp σ π n = ⟨π.owner, π.parts ++ [((a : Int), runs σ n)], π.at_, π.end_⟩ by unfold allocSp; rw [if_neg h15, if_neg h20, if_pos h59, if_neg h74, hr1], show allocSt σ π n = takeS σ π.owner (runs σ n) from if_neg (by omega)]
          refine TN.fold (Space p st ⟨π.owner, π.parts ++ [((a : Int), runs σ n)], π.at_, π.end_⟩) (ent_pack s70 ⟨⟨ha1, ha2, he1, he2⟩, by simp [hn, hs70]⟩) ?_
          refine TN_rets tys_of () (.inl rfl) rfl (rs := [.tmp 4, .tmp 5]) rfl (vs := [_, _]) ⟨rfl, rfl, trivial⟩ (by rw [show allocR σ π n = ((a : Int) * σ.size, 0) by unfold allocR; rw [if_neg h15, if_neg h20, if_pos h59, hr1]]; rfl) trivial
end Go.Sl.Tz

/-
  The contracts of package store, third part. By mk.py out of spec/SlStore3.spec.
-/
namespace Go.Sl.Tz
open Go Go.Proofs Go.Sl
set_option maxRecDepth 100000

theorem at_zero {σ : StoreM} {addr n : Int} (h : atR σ addr n = 0) : ∃ a m : Nat, addr = a ∧ n = m ∧ a + m ≤ σ.w.length := by
  unfold atR at h
  split at h
  · omega
  · exact ⟨addr.toNat, n.toNat, by omega, by omega, by omega⟩
/-- Some words are what others were. -/
def copyW (w : List Nat) (t f m : Nat) : List Nat := w.take t ++ ((w.drop f).take m ++ w.drop (t + m))
theorem copyW_len {w : List Nat} {t f m : Nat} (h1 : t + m ≤ w.length) (h2 : f + m ≤ w.length) : (copyW w t f m).length = w.length := by
  simp [copyW]; omega
theorem setAll_mid (l vs : List Value) (t : Nat) (h : t + vs.length ≤ l.length) : setAll l t vs = l.take t ++ (vs ++ l.drop (t + vs.length)) := by
  have h1 : (l.take t).length = t := by rw [List.length_take]; omega
  have h2 : l = l.take t ++ ((l.drop t).take vs.length ++ l.drop (t + vs.length)) := by
    conv => lhs; rw [← List.take_append_drop t l, ← List.take_append_drop vs.length (l.drop t), List.drop_drop]
  have h3 : ((l.drop t).take vs.length).length = vs.length := by rw [List.length_take, List.length_drop]; omega
  conv => lhs; rw [h2]
  have := setAll_pre vs (l.take t) ((l.drop t).take vs.length ++ l.drop (t + vs.length)) 0
  rw [Nat.add_zero, h1] at this
  rw [this, setAll_post _ _ _ _ (by omega), setAll_all _ _ h3.symm]
theorem copy_dst (pre sp : List Value) (w : List Nat) (t f m off : Nat) (h1 : t + m ≤ w.length) (h2 : f + m ≤ w.length) (ho : m ≠ 0 → off = pre.length + t * 1) :
    setAll (pre ++ (w.map uv ++ sp)) off (((w.drop f).take m).map uv) = pre ++ ((copyW w t f m).map uv ++ sp) := by
  by_cases hm : m = 0
  · subst hm
    simp [copyW, setAll]
  · have hl : (((w.drop f).take m).map uv).length = m := by simp; omega
    rw [ho hm, Nat.mul_one, setAll_pre, setAll_post _ _ _ _ (by rw [hl]; simp; omega), setAll_mid _ _ _ (by rw [hl]; simp; omega), hl]
    simp [copyW, List.map_take, List.map_drop]
theorem copy_src (pre sp : List Value) (w : List Nat) (f m off : Nat) (h2 : f + m ≤ w.length) (ho : m ≠ 0 → off = pre.length + f * 1) :
    sliceL (pre ++ (w.map uv ++ sp)) off (m * 1) = ((w.drop f).take m).map uv := by
  by_cases hm : m = 0
  · subst hm; simp [sliceL]
  · rw [ho hm, Nat.mul_one, Nat.mul_one, sliceL_pre, sliceL_post _ _ _ _ (by simp; omega)]
    simp [sliceL, List.map_take, List.map_drop]

def copyR (σ : StoreM) (to frm n : Int) : Int :=
  if atR σ to n = 3 ∨ atR σ frm n = 3 then 3 else if atR σ to n ≠ 0 ∨ atR σ frm n ≠ 0 then 17 else 0
def copyS (σ : StoreM) (to frm n : Int) : StoreM := if atR σ to n = 0 ∧ atR σ frm n = 0 then { σ with w := copyW σ.w to.toNat frm.toNat n.toNat } else σ
theorem copyS_ok {σ : StoreM} (h : StoreOK σ) (to frm n : Int) : StoreOK (copyS σ to frm n) := by
  unfold copyS
  split
  · rename_i hc
    obtain ⟨t, m, rfl, rfl, h1⟩ := at_zero hc.1
    obtain ⟨f, m', rfl, h3, h2⟩ := at_zero hc.2
    have hmm : m' = m := by omega
    subst hmm
    refine ⟨h.s1, h.s2, h.c1, h.c2, ?_, h.ul, fun x hx => ?_⟩
    · show (copyW _ _ _ _).length = _
      rw [copyW_len (by simpa using h1) (by simpa using h2)]; exact h.wl
    · simp only [copyW, List.mem_append] at hx
      rcases hx with hx | hx | hx
      · exact h.wb x (List.mem_of_mem_take hx)
      · exact h.wb x (List.mem_of_mem_drop (List.mem_of_mem_take hx))
      · exact h.wb x (List.mem_of_mem_drop hx)
  · exact h

theorem copy_fn (S : Hp) (p : Nat) (σ : StoreM) (to frm n : Int) : FNs S prog F_store_Store_Copy #[.pointer (some ⟨p, 0, none⟩), iv to, iv frm, iv n] [Store p σ] (fun _ : Unit => iv (copyR σ to frm n)) (fun _ => True) (fun _ => [Store p (copyS σ to frm n)]) := by
  refine FNs_of_body func_store_Store_Copy rfl ntmps_store_Store_Copy rfl ?_
  intro R w0
  refine TC_seq ?_
  refine TC_region ?_
  refine TO_puresN 1 tys_of rfl (TO_nil ?_)
  refine TC_seq ?_
  refine TC_seq ?_
  refine TC_region ?_
  refine TO_puresN 2 tys_of rfl (TO_nil ?_)
  refine TC_false rfl ?_
  refine TC_skip ?_
  refine TC_seq ?_
  refine TC_region ?_
  refine TO_puresN 3 tys_of rfl (TO_cons (TOp_calls rfl rfl cl_store_Store_at (at_fn _ p σ to n) fun y16 hy16 => ?_))
  refine TO_puresN 3 tys_of rfl (TO_cons (TOp_calls rfl rfl cl_store_Store_at (at_fn _ p σ frm n) fun y20 hy20 => ?_))
  refine TO_puresN 2 tys_of rfl (TO_nil ?_)
  refine TC_seq ?_
  refine TC_block ?_
  refine TC_seq ?_
  refine TC_region ?_
  refine TO_puresN 1 tys_of rfl (TO_cons (TOp_bool tys_of rfl rfl (fun h23 => ?_) (fun h23 => ?_)))
  · -- t23 True: (Op.binOp BinOp.eql 40 (Operand.tmp 22) (Operand.const (Value.int IntKind.i64 3)) 40)
    try simp only [decide_eq_true_eq, decide_eq_false_iff_not, beq_iff_eq, bne_iff_ne, beq_eq_false_iff_ne, bne_eq_false_iff_eq, ne_eq, Bool.not_eq_true', Bool.not_eq_false', Decidable.not_not] at h23
    refine TO_puresN 5 tys_of rfl (TO_nil ?_)
    refine TC_true rfl ?_
    refine TC_seq ?_
    refine TC_region ?_
    refine TO_puresN 1 tys_of rfl (TO_nil ?_)
    refine TC_ret ?_
    repeat (first | refine TN_thenr ?_ | refine TN_blockr ?_)
    rw [show copyS σ to frm n = σ from if_neg (by omega)]
    refine TN_rets tys_of () (.inl rfl) rfl (rs := [.tmp 8]) rfl (vs := [_]) ⟨rfl, trivial⟩ (by rw [show copyR σ to frm n = 3 from if_pos (by omega)]; rfl) trivial
  · -- t23 False: (Op.binOp BinOp.eql 40 (Operand.tmp 22) (Operand.const (Value.int IntKind.i64 3)) 40)
    try simp only [decide_eq_true_eq, decide_eq_false_iff_not, beq_iff_eq, bne_iff_ne, beq_eq_false_iff_ne, bne_eq_false_iff_eq, ne_eq, Bool.not_eq_true', Bool.not_eq_false', Decidable.not_not] at h23
    refine TO_puresN 2 tys_of rfl (TO_cons (TOp_bool tys_of rfl rfl (fun h26 => ?_) (fun h26 => ?_)))
    · -- t26 True: (Op.binOp BinOp.eql 40 (Operand.tmp 25) (Operand.const (Value.int IntKind.i64 3)) 40)
      try simp only [decide_eq_true_eq, decide_eq_false_iff_not, beq_iff_eq, bne_iff_ne, beq_eq_false_iff_ne, bne_eq_false_iff_eq, ne_eq, Bool.not_eq_true', Bool.not_eq_false', Decidable.not_not] at h26
      refine TO_puresN 2 tys_of rfl (TO_nil ?_)
      refine TC_true rfl ?_
      refine TC_seq ?_
      refine TC_region ?_
      refine TO_puresN 1 tys_of rfl (TO_nil ?_)
      refine TC_ret ?_
      repeat (first | refine TN_thenr ?_ | refine TN_blockr ?_)
      rw [show copyS σ to frm n = σ from if_neg (by omega)]
      refine TN_rets tys_of () (.inl rfl) rfl (rs := [.tmp 8]) rfl (vs := [_]) ⟨rfl, trivial⟩ (by rw [show copyR σ to frm n = 3 from if_pos (by omega)]; rfl) trivial
    · -- t26 False: (Op.binOp BinOp.eql 40 (Operand.tmp 25) (Operand.const (Value.int IntKind.i64 3)) 40)
      try simp only [decide_eq_true_eq, decide_eq_false_iff_not, beq_iff_eq, bne_iff_ne, beq_eq_false_iff_ne, bne_eq_false_iff_eq, ne_eq, Bool.not_eq_true', Bool.not_eq_false', Decidable.not_not] at h26
      refine TO_puresN 2 tys_of rfl (TO_nil ?_)
      refine TC_false rfl ?_
      refine TC_seq ?_
      refine TC_region ?_
      refine TO_puresN 1 tys_of rfl (TO_cons (TOp_bool tys_of rfl rfl (fun h30 => ?_) (fun h30 => ?_)))
      · -- t30 True: (Op.binOp BinOp.neq 40 (Operand.tmp 29) (Operand.const (Value.int IntKind.i64 0)) 40)
        try simp only [decide_eq_true_eq, decide_eq_false_iff_not, beq_iff_eq, bne_iff_ne, beq_eq_false_iff_ne, bne_eq_false_iff_eq, ne_eq, Bool.not_eq_true', Bool.not_eq_false', Decidable.not_not] at h30
        refine TO_puresN 5 tys_of rfl (TO_nil ?_)
        refine TC_true rfl ?_
        refine TC_seq ?_
        refine TC_region ?_
        refine TO_puresN 1 tys_of rfl (TO_nil ?_)
        refine TC_ret ?_
        repeat (first | refine TN_thenr ?_ | refine TN_blockr ?_)
        rw [show copyS σ to frm n = σ from if_neg (by omega)]
        refine TN_rets tys_of () (.inl rfl) rfl (rs := [.tmp 8]) rfl (vs := [_]) ⟨rfl, trivial⟩ (by rw [show copyR σ to frm n = 17 by unfold copyR; rw [if_neg (by omega), if_pos (by omega)]]; rfl) trivial
      · -- t30 False: (Op.binOp BinOp.neq 40 (Operand.tmp 29) (Operand.const (Value.int IntKind.i64 0)) 40)
        try simp only [decide_eq_true_eq, decide_eq_false_iff_not, beq_iff_eq, bne_iff_ne, beq_eq_false_iff_ne, bne_eq_false_iff_eq, ne_eq, Bool.not_eq_true', Bool.not_eq_false', Decidable.not_not] at h30
        refine TO_puresN 2 tys_of rfl (TO_cons (TOp_bool tys_of rfl rfl (fun h33 => ?_) (fun h33 => ?_)))
        · -- t33 True: (Op.binOp BinOp.neq 40 (Operand.tmp 32) (Operand.const (Value.int IntKind.i64 0)) 40)
          try simp only [decide_eq_true_eq, decide_eq_false_iff_not, beq_iff_eq, bne_iff_ne, beq_eq_false_iff_ne, bne_eq_false_iff_eq, ne_eq, Bool.not_eq_true', Bool.not_eq_false', Decidable.not_not] at h33
          refine TO_puresN 2 tys_of rfl (TO_nil ?_)
          refine TC_true rfl ?_
          refine TC_seq ?_
          refine TC_region ?_
          refine TO_puresN 1 tys_of rfl (TO_nil ?_)
          refine TC_ret ?_
          repeat (first | refine TN_thenr ?_ | refine TN_blockr ?_)
          rw [show copyS σ to frm n = σ from if_neg (by omega)]
          refine TN_rets tys_of () (.inl rfl) rfl (rs := [.tmp 8]) rfl (vs := [_]) ⟨rfl, trivial⟩ (by rw [show copyR σ to frm n = 17 by unfold copyR; rw [if_neg (by omega), if_pos (by omega)]]; rfl) trivial
        · -- t33 False: (Op.binOp BinOp.neq 40 (Operand.tmp 32) (Operand.const (Value.int IntKind.i64 0)) 40)
          try simp only [decide_eq_true_eq, decide_eq_false_iff_not, beq_iff_eq, bne_iff_ne, beq_eq_false_iff_ne, bne_eq_false_iff_eq, ne_eq, Bool.not_eq_true', Bool.not_eq_false', Decidable.not_not] at h33
          have hcs : copyS σ to frm n = { σ with w := copyW σ.w to.toNat frm.toNat n.toNat } := if_pos ⟨by omega, by omega⟩
          have hcr : copyR σ to frm n = 0 := by unfold copyR; rw [if_neg (by omega), if_neg (by omega)]
          rw [hcr, hcs]
          obtain ⟨t, m, rfl, rfl, htm⟩ := at_zero (show atR σ to n = 0 by omega)
          obtain ⟨f, m', rfl, hm', hfm⟩ := at_zero (show atR σ frm m = 0 by omega)
          obtain rfl : m' = m := by omega
          refine TN.openP (Store p σ) rfl fun ⟨sw, so, q⟩ hx => ?_
          obtain ⟨hok, hw, ho⟩ := hx
          dsimp only at hw ho ⊢
          simp only [Int.toNat_natCast]
          have hs1 := hok.s1
          have hpos : 1 ≤ σ.w.length := by rw [hok.wl]; exact Nat.mul_pos hok.c1 hok.s1
          have hw2 := hok.wl2
          refine TN.rowopen sw (by omega) fun g pre sp ha hrow => ?_
          have hcap := hrow.2.2.1
          refine TO_puresN 2 tys_of rfl (TO_nil ?_)
          refine TC_false rfl ?_
          refine TC_skip ?_
          try refine TN_blockn ?_
          refine TC_seq ?_
          refine TC_draw (by kernel_rfl) (sep [cel p T_store_Store [sw.val, iv σ.size, so.val, .pointer (some ⟨q, 0, none⟩)]]) 19 ?_
          refine TA_reads (fuel := 1) [0, 1, 2, 3, 4, 5, 6, 7, 8, 9, 10, 11, 12, 13, 14, 15, 16, 17] rfl (fun _ _ _ h => h) (by decide +kernel) (by decide +kernel) (by decide +kernel) (by decide +kernel) ent_takes ?_
          refine TR_puresN 3 tys_of rfl (TR_exact rfl (Ex_load tys_of rfl rfl rfl keep_find rfl) ?_)
          refine TR_puresN 4 tys_of rfl ?_
          rw [wrap_i64 (by omega) (by omega), ← Int.natCast_add]
          refine TR_puresN 0 tys_of rfl (TR_exact rfl (Ex_sliceS (sz := 1) tys_of rfl rfl ha (l := t) (by exact ⟨_, rfl⟩) (h := t + m') (by exact ⟨_, rfl⟩) (m := sw.cap) (by exact rfl) (by simp) rfl rfl (by rfl) (by omega) (by omega) (Nat.le_refl _)) ?_)
          rw [show t + m' - t = m' by omega]
          refine TR_puresN 3 tys_of rfl (TR_exact rfl (Ex_load tys_of rfl rfl rfl keep_find rfl) ?_)
          refine TR_puresN 4 tys_of rfl ?_
          rw [wrap_i64 (by omega) (by omega), ← Int.natCast_add]
          refine TR_puresN 0 tys_of rfl (TR_exact rfl (Ex_sliceS (sz := 1) tys_of rfl rfl ha (l := f) (by exact ⟨_, rfl⟩) (h := f + m') (by exact ⟨_, rfl⟩) (m := sw.cap) (by exact rfl) (by simp) rfl rfl (by rfl) (by omega) (by omega) (Nat.le_refl _)) ?_)
          rw [show f + m' - f = m' by omega]
          refine TR_puresN 0 tys_of rfl (TR_done ?_)
          refine TA_one (fuel := 0) 18 (by decide +kernel) (TOp_copy tys_of rfl rfl rfl rfl rfl rfl rfl (news := ((σ.w.drop f).take m').map uv) (by rw [show Nat.min m' m' = m' from Nat.min_self m']; exact copy_src pre sp σ.w f m' _ hfm (fun hm => if_neg (by omega))) (by rw [show Nat.min m' m' = m' from Nat.min_self m']; show _ + m' * 1 ≤ _; simp; split <;> omega) (by rw [show Nat.min m' m' = m' from Nat.min_self m']; show _ + m' * 1 ≤ _; simp; split <;> omega) (cells_uv _) ?_)
          rw [copy_dst pre sp σ.w t f m' _ htm hfm (fun hm => if_neg (by omega))]
          refine TN.rowclose (hrow.set ((copyW σ.w t f m').map uv) (by rw [List.length_map, List.length_map, copyW_len htm hfm]) (cells_uv _)) ?_
          refine TB_low ent_takes ?_
          refine TA_nil ?_ (by decide +kernel)
          refine TC_seq ?_
          refine TC_region ?_
          refine TO_puresN 1 tys_of rfl (TO_nil ?_)
          refine TC_ret ?_
          repeat (first | refine TN_thenr ?_ | refine TN_blockr ?_)
          refine TN.fold (Store p { σ with w := copyW σ.w t f m' }) (ent_pack (sw, so, q) ⟨by have := copyS_ok hok (t : Int) (f : Int) (m' : Int); rw [hcs] at this; simpa using this, by rw [← hw]; exact copyW_len htm hfm, ho⟩) ?_
          refine TN_rets tys_of () (.inl rfl) rfl (rs := [.tmp 8]) rfl (vs := [_]) ⟨rfl, trivial⟩ rfl trivial
end Go.Sl.Tz
