/-
  A part of the proof of the statement about OpNone: laws of what a heap owns, the functions' contracts, in the order in which they call each other: Decode, Header, Big, Book, Image, Map, Tree, Sort, Run, Aux.
-/
import Derived.Shelf.Sort.Plain
import Derived.Shelf.Slices.In.SortNone
import Derived.Shelf.Abstract
import Derived.Test.YtjifmcdlbffemaaGreatDoorSlOpNoneA
import Derived.Test.YtjifmcdlbffemaaGreatDoorSlOpNoneB
import Derived.Test.YtjifmcdlbffemaaGreatDoorSlOpNoneC
import Derived.Test.YtjifmcdlbffemaaGreatDoorSlOpNoneD
import Derived.Test.YtjifmcdlbffemaaGreatDoorSlOpNoneE
set_option linter.unusedVariables false
set_option linter.unusedSimpArgs false

/-
  The contract of layout.Decode. By mk.py out of spec/SlDecode.spec.
-/
namespace Go.Sl.Tz
open Go Go.Proofs Go.Sl
set_option maxRecDepth 100000

def fldN (u : Nat) (f : Nat × Nat) : Nat := (u &&& maskF f) >>> f.1
theorem fldN_le (u : Nat) (f : Nat × Nat) : fldN u f ≤ maskF f >>> f.1 := by
  unfold fldN
  rw [Nat.shiftRight_eq_div_pow, Nat.shiftRight_eq_div_pow]
  exact Nat.div_le_div_right Nat.and_le_right
/-- The layout of three words, as they stand. -/
def rawL (u0 u1 u2 : Nat) : Lay := ⟨(fldN u0 (0, 8) : Nat), (spreadL u1).map fun p => ((p : Nat) : Int), (fldN u0 (8, 8) : Nat), (spreadL u2).map fun p => ((p : Nat) : Int)⟩
def decR : List Nat → Lay × Int
  | [u0, u1, u2] => if fldN u0 (16, 48) = 0 ∧ rightM (rawL u0 u1 u2) = true then (rawL u0 u1 u2, 0) else (lay0, 4)
  | _ => (lay0, 4)
theorem rawL_b (u0 u1 u2 : Nat) : LayB (rawL u0 u1 u2) := by
  refine ⟨?_, ?_⟩ <;> simp only [rawL, List.length_map]
  · have := spreadL_len u1; omega
  · have := spreadL_len u2; omega

theorem decode_fn (S : Hp) (hS : Tab S) (s : Slc) (ws : List Nat) (hw : ∀ x ∈ ws, x < 2 ^ 64) : FNs S prog F_layout_Decode #[s.val] [Row s T_uint64 1 (ws.map uv)]
    (fun r : Slc × Slc => .tuple #[layV (decR ws).1 r.1 r.2, iv (decR ws).2]) (fun _ => True) (fun r => Row s T_uint64 1 (ws.map uv) :: LayR (decR ws).1 r.1 r.2) := by
  refine FNs_of_body func_layout_Decode rfl ntmps_layout_Decode rfl ?_
  intro R w0
  refine TN.rowlen s fun hn => ?_
  replace hn : ws.length = s.n := by simpa using hn
  refine TC_seq ?_
  refine TC_region ?_
  refine TO_puresN 0 tys_of rfl (TO_cons (TOp_alloc tys_of rfl rfl rfl fun b2 => ?_))
  try refine TN.same b2 (l' := layC lay0 nilS nilS) rfl ?_
  refine TO_puresN 1 tys_of rfl (TO_nil ?_)
  refine TC_seq ?_
  refine TC_seq ?_
  refine TC_region ?_
  refine TO_puresN 2 tys_of rfl (TO_cons (TOp_bool tys_of rfl rfl (fun h9 => ?_) (fun h9 => ?_)))
  · -- t9 True: (Op.binOp BinOp.neq 3 (Operand.tmp 8) (Operand.const (Value.int IntKind.i64 3)) 3)
    try simp only [decide_eq_true_eq, decide_eq_false_iff_not, beq_iff_eq, bne_iff_ne, beq_eq_false_iff_ne, bne_eq_false_iff_eq, ne_eq, Bool.not_eq_true', Bool.not_eq_false', Decidable.not_not] at h9
    refine TO_puresN 0 tys_of rfl (TO_nil ?_)
    refine TC_true rfl ?_
    refine TC_seq ?_
    refine TC_region ?_
    refine TO_puresN 1 tys_of rfl (TO_cons (TOp_store tys_of rfl rfl rfl rfl rfl rfl rfl rfl ?_))
    refine TN.same b2 (l' := layC lay0 nilS nilS) rfl ?_
    refine TO_puresN 1 tys_of rfl (TO_nil ?_)
    refine TC_ret ?_
    repeat (first | refine TN_thenr ?_ | refine TN_blockr ?_)
    have hne : decR ws = (lay0, 4) := by match ws, (show ws.length ≠ 3 by omega) with | [], _ => rfl | [_], _ => rfl | [_, _], _ => rfl | [_, _, _], h => exact absurd rfl h | _ :: _ :: _ :: _ :: _, _ => rfl
    rw [hne]
    refine TN.nilrow T_int 1 (xs := lay0.refs.map iv) rfl ?_
    refine TN.nilrow T_int 1 (xs := lay0.recRefs.map iv) rfl ?_
    refine TN_rets tys_of (nilS, nilS) (.inl rfl) rfl (rs := [.cell 2 111, .tmp 3]) rfl (vs := [_, _]) ⟨⟨_, _, _, _, _, _, rfl, rfl, lies_find, rfl⟩, rfl, trivial⟩ rfl trivial
  · -- t9 False: (Op.binOp BinOp.neq 3 (Operand.tmp 8) (Operand.const (Value.int IntKind.i64 3)) 3)
    try simp only [decide_eq_true_eq, decide_eq_false_iff_not, beq_iff_eq, bne_iff_ne, beq_eq_false_iff_ne, bne_eq_false_iff_eq, ne_eq, Bool.not_eq_true', Bool.not_eq_false', Decidable.not_not] at h9
    obtain ⟨u0, u1, u2, rfl⟩ : ∃ a b c, ws = [a, b, c] := by match ws, (show ws.length = 3 by omega) with | [a, b, c], _ => exact ⟨a, b, c, rfl⟩
    have hn3 : s.n = 3 := by simpa using hn.symm
    have hu0 : u0 < 2 ^ 64 := hw _ (by simp)
    have hu1 : u1 < 2 ^ 64 := hw _ (by simp)
    have hu2 : u2 < 2 ^ 64 := hw _ (by simp)
    have hx0 := fldN_le u0 (0, 8)
    have hx1 := fldN_le u0 (8, 8)
    rw [show maskF (0, 8) >>> 0 = 255 by decide] at hx0
    rw [show maskF (8, 8) >>> 8 = 255 by decide] at hx1
    refine TN.rowopen s (by omega) fun g pre sp ha hrow => ?_
    refine TO_puresN 0 tys_of rfl (TO_nil ?_)
    refine TC_false rfl ?_
    refine TC_skip ?_
    refine TC_seq ?_
    refine TC_draw (by kernel_rfl) (sep [cel g T_uint64 (pre ++ ([u0, u1, u2].map uv ++ sp))]) 10 ?_
    refine TA_reads (fuel := 7) [0, 1, 2] rfl (fun _ _ _ h => h) (by decide +kernel) (by decide +kernel) (by decide +kernel) (by decide +kernel) ent_takes ?_
    refine TR_puresN 1 tys_of rfl (TR_exact rfl (Ex_indexS (sz := 1) tys_of rfl rfl (m := 0) ha rfl rfl rfl (by omega)) ?_)
    refine TR_puresN 0 tys_of rfl (TR_exact rfl (Ex_load tys_of rfl rfl rfl keep_find (loadL_row (loadL_one rfl (v := uv u0) rfl))) ?_)
    refine TR_puresN 0 tys_of rfl (TR_done ?_)
    refine TA_one (fuel := 6) 3 (by decide +kernel) (TOp_calls rfl rfl cl_layout_sizes (sizes_fn _) fun y15 hy15 => ?_)
    refine TB_low ent_takes ?_
    refine TA_one (fuel := 5) 4 (by decide +kernel) (TOp_calls rfl rfl cl_field_Unpack (unpack_fn _ u0 hu0 y15 sizesF (by decide) (by decide) (by decide) (by decide)) fun y16 hy16 => ?_)
    refine TB_low ent_takes ?_
    refine TA_frees (fuel := 0) [5, 6, 7, 8, 9] rfl (fun _ _ _ h => h) (by decide +kernel) ?_
    refine TR_puresN 5 tys_of rfl (TR_done ?_)
    refine TA_nil ?_ (by decide +kernel)
    refine TC_seq ?_
    refine TN.rowlen y16 fun hn16 => ?_
    replace hn16 : y16.n = 3 := by simpa [unpackF, sizesF] using hn16.symm
    refine TN.rowopen y16 (by omega) fun g2 pre2 sp2 ha2 hrow2 => ?_
    refine TC_draw (by kernel_rfl) (sep [cel g T_uint64 (pre ++ ([u0, u1, u2].map uv ++ sp)), cel g2 T_uint64 (pre2 ++ ((unpackF u0 sizesF).map uv ++ sp2))]) 19 ?_
    refine TA_reads (fuel := 5) [0, 1, 2, 3, 4, 5, 6, 8, 9, 10, 11, 12, 13, 14] rfl (fun _ _ _ h => h) (by decide +kernel) (by decide +kernel) (by decide +kernel) (by decide +kernel) ent_takes ?_
    refine TR_puresN 1 tys_of rfl (TR_exact rfl (Ex_indexS (sz := 1) tys_of rfl rfl (m := 0) ha2 rfl rfl rfl (by omega)) ?_)
    refine TR_puresN 0 tys_of rfl (TR_exact rfl (Ex_load tys_of rfl rfl rfl keep_find (loadL_row (loadL_one rfl (v := uv (fldN u0 (0, 8))) rfl))) ?_)
    refine TR_puresN 1 tys_of rfl ?_
    rw [wrap_i64 (by omega) (by omega)]
    refine TR_puresN 1 tys_of rfl (TR_exact rfl (Ex_indexS (sz := 1) tys_of rfl rfl (m := 1) ha rfl rfl rfl (by omega)) ?_)
    refine TR_puresN 0 tys_of rfl (TR_exact rfl (Ex_load tys_of rfl rfl rfl keep_find (loadL_row (loadL_one rfl (v := uv u1) rfl))) ?_)
    refine TR_puresN 1 tys_of rfl (TR_exact rfl (Ex_indexS (sz := 1) tys_of rfl rfl (m := 1) ha2 rfl rfl rfl (by omega)) ?_)
    refine TR_puresN 0 tys_of rfl (TR_exact rfl (Ex_load tys_of rfl rfl rfl keep_find (loadL_row (loadL_one rfl (v := uv (fldN u0 (8, 8))) rfl))) ?_)
    refine TR_puresN 1 tys_of rfl ?_
    rw [wrap_i64 (by omega) (by omega)]
    refine TR_puresN 1 tys_of rfl (TR_exact rfl (Ex_indexS (sz := 1) tys_of rfl rfl (m := 2) ha rfl rfl rfl (by omega)) ?_)
    refine TR_puresN 0 tys_of rfl (TR_exact rfl (Ex_load tys_of rfl rfl rfl keep_find (loadL_row (loadL_one rfl (v := uv u2) rfl))) ?_)
    refine TR_puresN 0 tys_of rfl (TR_done ?_)
    refine TA_have (fuel' := 1) (listed' := #[true, true, true, true, true, true, true, true, true, true, true, true, true, true, true, true, true, true, false]) (fun y : Slc × Slc × Nat => True) (fun y : Slc × Slc × Nat => ⟨47, [], [(2, .pointer (some ⟨b2, 0, none⟩)), (3, iv 0), (4, y16.val), (35, layV (rawL u0 u1 u2) y.1 y.2.1), (6, .pointer (some ⟨y.2.2, 0, none⟩))]⟩) (fun y : Slc × Slc × Nat => [cel b2 T_api_Layout (layC lay0 nilS nilS), cel g T_uint64 (pre ++ ([u0, u1, u2].map uv ++ sp)), cel g2 T_uint64 (pre2 ++ ((unpackF u0 sizesF).map uv ++ sp2)), Row y.1 T_int 1 ((rawL u0 u1 u2).refs.map iv), Row y.2.1 T_int 1 ((rawL u0 u1 u2).recRefs.map iv), cel y.2.2 T_api_Layout (layC lay0 nilS nilS)]) ?_ ?_
    rotate_left
    · intro tail
      refine TA_two (fuel := 4) 7 17 (by decide +kernel) ?_ ?_
      · refine TOp_calls rfl rfl cl_layout_spread (spread_fn _ hS u1 hu1) fun y26 hy26 => ?_
        refine TN.rowsame y26 (xs' := (rawL u0 u1 u2).refs.map iv) (by simp [rawL]) ?_
        refine TB_low ent_takes ?_
        refine TA_two (fuel := 3) 15 17 (by decide +kernel) ?_ ?_
        · refine TOp_calls rfl rfl cl_layout_spread (spread_fn _ hS u2 hu2) fun y34 hy34 => ?_
          refine TN.rowsame y34 (xs' := (rawL u0 u1 u2).recRefs.map iv) (by simp [rawL]) ?_
          refine TB_low ent_takes ?_
          refine TA_frees (fuel := 2) [16] rfl (fun _ _ _ h => h) (by decide +kernel) ?_
          refine TR_puresN 1 tys_of rfl (TR_done ?_)
          refine TA_one (fuel := 1) 17 (by decide +kernel) (TOp_alloc tys_of rfl rfl rfl fun b6 => ?_)
          refine TN.same b6 (l' := layC lay0 nilS nilS) rfl ?_
          refine TB_low ent_takes ?_
          exact TA_use (tail (y26, y34, b6) trivial) (by decide +kernel) (Env.le_of_knows (by repeat first | exact trivial | refine ⟨rfl, ?_⟩))
        · refine TOp_alloc tys_of rfl rfl rfl fun b6 => ?_
          refine TN.same b6 (l' := layC lay0 nilS nilS) rfl ?_
          refine TB_low ent_takes ?_
          refine TA_one (fuel := 2) 15 (by decide +kernel) (TOp_calls rfl rfl cl_layout_spread (spread_fn _ hS u2 hu2) fun y34 hy34 => ?_)
          refine TN.rowsame y34 (xs' := (rawL u0 u1 u2).recRefs.map iv) (by simp [rawL]) ?_
          refine TB_low ent_takes ?_
          refine TA_frees (fuel := 1) [16] rfl (fun _ _ _ h => h) (by decide +kernel) ?_
          refine TR_puresN 1 tys_of rfl (TR_done ?_)
          exact TA_use (tail (y26, y34, b6) trivial) (by decide +kernel) (Env.le_of_knows (by repeat first | exact trivial | refine ⟨rfl, ?_⟩))
      · refine TOp_alloc tys_of rfl rfl rfl fun b6 => ?_
        refine TN.same b6 (l' := layC lay0 nilS nilS) rfl ?_
        refine TB_low ent_takes ?_
        refine TA_one (fuel := 3) 7 (by decide +kernel) (TOp_calls rfl rfl cl_layout_spread (spread_fn _ hS u1 hu1) fun y26 hy26 => ?_)
        refine TN.rowsame y26 (xs' := (rawL u0 u1 u2).refs.map iv) (by simp [rawL]) ?_
        refine TB_low ent_takes ?_
        refine TA_one (fuel := 2) 15 (by decide +kernel) (TOp_calls rfl rfl cl_layout_spread (spread_fn _ hS u2 hu2) fun y34 hy34 => ?_)
        refine TN.rowsame y34 (xs' := (rawL u0 u1 u2).recRefs.map iv) (by simp [rawL]) ?_
        refine TB_low ent_takes ?_
        refine TA_frees (fuel := 1) [16] rfl (fun _ _ _ h => h) (by decide +kernel) ?_
        refine TR_puresN 1 tys_of rfl (TR_done ?_)
        exact TA_use (tail (y26, y34, b6) trivial) (by decide +kernel) (Env.le_of_knows (by repeat first | exact trivial | refine ⟨rfl, ?_⟩))
    rintro ⟨y26, y34, b6⟩ -
    dsimp only
    refine TA_one (fuel := 0) 18 (by decide +kernel) (TOp_store tys_of rfl rfl rfl rfl rfl rfl rfl rfl ?_)
    refine TN.same b6 (l' := layC (rawL u0 u1 u2) y26 y34) rfl ?_
    refine TB_low ent_takes ?_
    refine TA_nil ?_ (by decide +kernel)
    refine TC_seq ?_
    refine TC_seq ?_
    refine TC_region ?_
    refine TO_puresN 1 tys_of rfl (TO_cons (TOp_exact rfl (Ex_indexS (sz := 1) tys_of rfl rfl (m := 2) ha2 rfl rfl rfl (by omega)) ?_))
    refine TO_puresN 0 tys_of rfl (TO_cons (TOp_exact rfl (Ex_load tys_of rfl rfl rfl lies_find (loadL_row (loadL_one rfl (v := uv (fldN u0 (16, 48))) rfl))) ?_))
    refine TO_puresN 0 tys_of rfl (TO_cons (TOp_bool tys_of rfl rfl (fun h39 => ?_) (fun h39 => ?_)))
    · -- t39 True: (Op.binOp BinOp.neq 62 (Operand.tmp 38) (Operand.const (Value.int IntKind.u64 0)) 62)
      try simp only [decide_eq_true_eq, decide_eq_false_iff_not, beq_iff_eq, bne_iff_ne, beq_eq_false_iff_ne, bne_eq_false_iff_eq, ne_eq, Bool.not_eq_true', Bool.not_eq_false', Decidable.not_not] at h39
      refine TO_puresN 5 tys_of rfl (TO_nil ?_)
      refine TC_true rfl ?_
      refine TC_seq ?_
      refine TC_region ?_
      refine TO_puresN 1 tys_of rfl (TO_cons (TOp_store tys_of rfl rfl rfl rfl rfl rfl rfl rfl ?_))
      refine TN.same b2 (l' := layC lay0 nilS nilS) rfl ?_
      refine TO_puresN 1 tys_of rfl (TO_nil ?_)
      refine TC_ret ?_
      repeat (first | refine TN_thenr ?_ | refine TN_blockr ?_)
      have hne : decR [u0, u1, u2] = (lay0, 4) := if_neg fun hc => by have := hc.1; omega
      rw [hne]
      refine TN.rowclose hrow ?_
      refine TN.nilrow T_int 1 (xs := lay0.refs.map iv) rfl ?_
      refine TN.nilrow T_int 1 (xs := lay0.recRefs.map iv) rfl ?_
      refine TN_rets tys_of (nilS, nilS) (.inl rfl) rfl (rs := [.cell 2 111, .tmp 3]) rfl (vs := [_, _]) ⟨⟨_, _, _, _, _, _, rfl, rfl, lies_find, rfl⟩, rfl, trivial⟩ rfl trivial
    · -- t39 False: (Op.binOp BinOp.neq 62 (Operand.tmp 38) (Operand.const (Value.int IntKind.u64 0)) 62)
      try simp only [decide_eq_true_eq, decide_eq_false_iff_not, beq_iff_eq, bne_iff_ne, beq_eq_false_iff_ne, bne_eq_false_iff_eq, ne_eq, Bool.not_eq_true', Bool.not_eq_false', Decidable.not_not] at h39
      refine TO_puresN 1 tys_of rfl (TO_cons (TOp_exact rfl (Ex_load tys_of rfl rfl rfl lies_find rfl) ?_))
      refine TO_puresN 0 tys_of rfl (TO_cons (TOp_calls rfl rfl cl_layout_Right (right_layout_fn _ (rawL u0 u1 u2) (rawL_b _ _ _) y26 y34) fun y42 hy42 => ?_))
      refine TO_puresN 0 tys_of rfl (TO_cons (TOp_bool tys_of rfl rfl (fun h43 => ?_) (fun h43 => ?_)))
      · -- t43 True: (Op.unOp UnOp.not 4 (Operand.tmp 42))
        try simp only [decide_eq_true_eq, decide_eq_false_iff_not, beq_iff_eq, bne_iff_ne, beq_eq_false_iff_ne, bne_eq_false_iff_eq, ne_eq, Bool.not_eq_true', Bool.not_eq_false', Decidable.not_not] at h43
        refine TO_puresN 1 tys_of rfl (TO_nil ?_)
        refine TC_true rfl ?_
        refine TC_seq ?_
        refine TC_region ?_
        refine TO_puresN 1 tys_of rfl (TO_cons (TOp_store tys_of rfl rfl rfl rfl rfl rfl rfl rfl ?_))
        refine TN.same b2 (l' := layC lay0 nilS nilS) rfl ?_
        refine TO_puresN 1 tys_of rfl (TO_nil ?_)
        refine TC_ret ?_
        repeat (first | refine TN_thenr ?_ | refine TN_blockr ?_)
        have hne : decR [u0, u1, u2] = (lay0, 4) := if_neg fun hc => by rw [h43] at hc; cases hc.2
        rw [hne]
        refine TN.rowclose hrow ?_
        refine TN.nilrow T_int 1 (xs := lay0.refs.map iv) rfl ?_
        refine TN.nilrow T_int 1 (xs := lay0.recRefs.map iv) rfl ?_
        refine TN_rets tys_of (nilS, nilS) (.inl rfl) rfl (rs := [.cell 2 111, .tmp 3]) rfl (vs := [_, _]) ⟨⟨_, _, _, _, _, _, rfl, rfl, lies_find, rfl⟩, rfl, trivial⟩ rfl trivial
      · -- t43 False: (Op.unOp UnOp.not 4 (Operand.tmp 42))
        try simp only [decide_eq_true_eq, decide_eq_false_iff_not, beq_iff_eq, bne_iff_ne, beq_eq_false_iff_ne, bne_eq_false_iff_eq, ne_eq, Bool.not_eq_true', Bool.not_eq_false', Decidable.not_not] at h43
        refine TO_puresN 1 tys_of rfl (TO_nil ?_)
        refine TC_false rfl ?_
        refine TC_skip ?_
        refine TC_seq ?_
        refine TC_region ?_
        refine TO_puresN 0 tys_of rfl (TO_cons (TOp_exact rfl (Ex_load tys_of rfl rfl rfl lies_find rfl) ?_))
        refine TO_puresN 0 tys_of rfl (TO_cons (TOp_store tys_of rfl rfl rfl rfl rfl rfl rfl rfl ?_))
        refine TN.same b2 (l' := layC (rawL u0 u1 u2) y26 y34) rfl ?_
        refine TO_puresN 1 tys_of rfl (TO_nil ?_)
        refine TC_ret ?_
        repeat (first | refine TN_thenr ?_ | refine TN_blockr ?_)
        have hne : decR [u0, u1, u2] = (rawL u0 u1 u2, 0) := if_pos ⟨by omega, h43⟩
        rw [hne]
        refine TN.rowclose hrow ?_
        refine TN_rets tys_of (y26, y34) (.inl rfl) rfl (rs := [.cell 2 111, .tmp 3]) rfl (vs := [_, _]) ⟨⟨_, _, _, _, _, _, rfl, rfl, lies_find, rfl⟩, rfl, trivial⟩ rfl trivial
end Go.Sl.Tz

/-
  The contracts of package header. By mk.py out of spec/SlHeader.spec.
-/
namespace Go.Sl.Tz
open Go Go.Proofs Go.Sl
set_option maxRecDepth 100000

structure HdrM where
  layout : Int
  count : Int
  slot : Int
abbrev hdrV (h : HdrM) : Value := .agg #[iv h.layout, iv h.count, iv h.slot]
abbrev hdrC (h : HdrM) : List Value := [iv h.layout, iv h.count, iv h.slot]
def mayH (h : HdrM) : Bool := decide (1 ≤ h.layout) && decide (h.layout ≤ 64) && decide (0 ≤ h.count) && decide (h.count ≤ 1024) && decide (0 ≤ h.slot) && decide (h.slot < 4096)
theorem mayH_of {h : HdrM} (hm : mayH h = true) : 1 ≤ h.layout ∧ h.layout ≤ 64 ∧ 0 ≤ h.count ∧ h.count ≤ 1024 ∧ 0 ≤ h.slot ∧ h.slot < 4096 := by
  simp only [mayH, Bool.and_eq_true, decide_eq_true_eq] at hm
  omega

theorem may_fn (S : Hp) (h : HdrM) : FNs S prog F_header_may #[hdrV h] [] (fun _ : Unit => .bool (mayH h)) (fun _ => True) (fun _ => []) := by
  refine FNs_of_body func_header_may rfl ntmps_header_may rfl ?_
  intro R w0
  refine TC_seq ?_
  refine TC_region ?_
  refine TO_puresN 0 tys_of rfl (TO_cons (TOp_box rfl rfl rfl fun b1 => ?_))
  refine TN.same b1 (l' := hdrC h) rfl ?_
  refine TO_puresN 1 tys_of rfl (TO_nil ?_)
  refine TC_seq ?_
  refine TC_region ?_
  refine TO_puresN 1 tys_of rfl (TO_cons (TOp_exact rfl (Ex_load tys_of rfl rfl rfl lies_find rfl) ?_))
  refine TO_puresN 0 tys_of rfl (TO_cons (TOp_bool tys_of rfl rfl (fun h5 => ?_) (fun h5 => ?_)))
  · -- t5 True: (Op.binOp BinOp.geq 3 (Operand.tmp 4) (Operand.const (Value.int IntKind.i64 1)) 3)
    try simp only [decide_eq_true_eq, decide_eq_false_iff_not, beq_iff_eq, bne_iff_ne, beq_eq_false_iff_ne, bne_eq_false_iff_eq, ne_eq, Bool.not_eq_true', Bool.not_eq_false', Decidable.not_not] at h5
    refine TO_puresN 2 tys_of rfl (TO_cons (TOp_exact rfl (Ex_load tys_of rfl rfl rfl lies_find rfl) ?_))
    refine TO_puresN 0 tys_of rfl (TO_cons (TOp_bool tys_of rfl rfl (fun h9 => ?_) (fun h9 => ?_)))
    · -- t9 True: (Op.binOp BinOp.leq 3 (Operand.tmp 8) (Operand.const (Value.int IntKind.i64 64)) 3)
      try simp only [decide_eq_true_eq, decide_eq_false_iff_not, beq_iff_eq, bne_iff_ne, beq_eq_false_iff_ne, bne_eq_false_iff_eq, ne_eq, Bool.not_eq_true', Bool.not_eq_false', Decidable.not_not] at h9
      refine TO_puresN 3 tys_of rfl (TO_cons (TOp_exact rfl (Ex_load tys_of rfl rfl rfl lies_find rfl) ?_))
      refine TO_puresN 0 tys_of rfl (TO_cons (TOp_bool tys_of rfl rfl (fun h14 => ?_) (fun h14 => ?_)))
      · -- t14 True: (Op.binOp BinOp.geq 3 (Operand.tmp 13) (Operand.const (Value.int IntKind.i64 0)) 3)
        try simp only [decide_eq_true_eq, decide_eq_false_iff_not, beq_iff_eq, bne_iff_ne, beq_eq_false_iff_ne, bne_eq_false_iff_eq, ne_eq, Bool.not_eq_true', Bool.not_eq_false', Decidable.not_not] at h14
        refine TO_puresN 3 tys_of rfl (TO_cons (TOp_exact rfl (Ex_load tys_of rfl rfl rfl lies_find rfl) ?_))
        refine TO_puresN 0 tys_of rfl (TO_cons (TOp_bool tys_of rfl rfl (fun h19 => ?_) (fun h19 => ?_)))
        · -- t19 True: (Op.binOp BinOp.leq 3 (Operand.tmp 18) (Operand.const (Value.int IntKind.i64 1024)) 3)
          try simp only [decide_eq_true_eq, decide_eq_false_iff_not, beq_iff_eq, bne_iff_ne, beq_eq_false_iff_ne, bne_eq_false_iff_eq, ne_eq, Bool.not_eq_true', Bool.not_eq_false', Decidable.not_not] at h19
          refine TO_puresN 3 tys_of rfl (TO_cons (TOp_exact rfl (Ex_load tys_of rfl rfl rfl lies_find rfl) ?_))
          refine TO_puresN 0 tys_of rfl (TO_cons (TOp_bool tys_of rfl rfl (fun h24 => ?_) (fun h24 => ?_)))
          · -- t24 True: (Op.binOp BinOp.geq 3 (Operand.tmp 23) (Operand.const (Value.int IntKind.i64 0)) 3)
            try simp only [decide_eq_true_eq, decide_eq_false_iff_not, beq_iff_eq, bne_iff_ne, beq_eq_false_iff_ne, bne_eq_false_iff_eq, ne_eq, Bool.not_eq_true', Bool.not_eq_false', Decidable.not_not] at h24
            refine TO_puresN 3 tys_of rfl (TO_cons (TOp_exact rfl (Ex_load tys_of rfl rfl rfl lies_find rfl) ?_))
            refine TO_puresN 3 tys_of rfl (TO_nil ?_)
            refine TC_ret ?_
            repeat (first | refine TN_thenr ?_ | refine TN_blockr ?_)
            refine TN_rets tys_of () (.inl rfl) rfl (rs := [.tmp 2]) rfl (vs := [_]) ⟨rfl, trivial⟩ (by simp only [mayH, retV]; simp; omega) trivial
          · -- t24 False: (Op.binOp BinOp.geq 3 (Operand.tmp 23) (Operand.const (Value.int IntKind.i64 0)) 3)
            try simp only [decide_eq_true_eq, decide_eq_false_iff_not, beq_iff_eq, bne_iff_ne, beq_eq_false_iff_ne, bne_eq_false_iff_eq, ne_eq, Bool.not_eq_true', Bool.not_eq_false', Decidable.not_not] at h24
            refine TO_puresN 7 tys_of rfl (TO_nil ?_)
            refine TC_ret ?_
            repeat (first | refine TN_thenr ?_ | refine TN_blockr ?_)
            refine TN_rets tys_of () (.inl rfl) rfl (rs := [.tmp 2]) rfl (vs := [_]) ⟨rfl, trivial⟩ (by simp only [mayH, retV]; simp; omega) trivial
        · -- t19 False: (Op.binOp BinOp.leq 3 (Operand.tmp 18) (Operand.const (Value.int IntKind.i64 1024)) 3)
          try simp only [decide_eq_true_eq, decide_eq_false_iff_not, beq_iff_eq, bne_iff_ne, beq_eq_false_iff_ne, bne_eq_false_iff_eq, ne_eq, Bool.not_eq_true', Bool.not_eq_false', Decidable.not_not] at h19
          refine TO_puresN 12 tys_of rfl (TO_nil ?_)
          refine TC_ret ?_
          repeat (first | refine TN_thenr ?_ | refine TN_blockr ?_)
          refine TN_rets tys_of () (.inl rfl) rfl (rs := [.tmp 2]) rfl (vs := [_]) ⟨rfl, trivial⟩ (by simp only [mayH, retV]; simp; omega) trivial
      · -- t14 False: (Op.binOp BinOp.geq 3 (Operand.tmp 13) (Operand.const (Value.int IntKind.i64 0)) 3)
        try simp only [decide_eq_true_eq, decide_eq_false_iff_not, beq_iff_eq, bne_iff_ne, beq_eq_false_iff_ne, bne_eq_false_iff_eq, ne_eq, Bool.not_eq_true', Bool.not_eq_false', Decidable.not_not] at h14
        refine TO_puresN 17 tys_of rfl (TO_nil ?_)
        refine TC_ret ?_
        repeat (first | refine TN_thenr ?_ | refine TN_blockr ?_)
        refine TN_rets tys_of () (.inl rfl) rfl (rs := [.tmp 2]) rfl (vs := [_]) ⟨rfl, trivial⟩ (by simp only [mayH, retV]; simp; omega) trivial
    · -- t9 False: (Op.binOp BinOp.leq 3 (Operand.tmp 8) (Operand.const (Value.int IntKind.i64 64)) 3)
      try simp only [decide_eq_true_eq, decide_eq_false_iff_not, beq_iff_eq, bne_iff_ne, beq_eq_false_iff_ne, bne_eq_false_iff_eq, ne_eq, Bool.not_eq_true', Bool.not_eq_false', Decidable.not_not] at h9
      refine TO_puresN 22 tys_of rfl (TO_nil ?_)
      refine TC_ret ?_
      repeat (first | refine TN_thenr ?_ | refine TN_blockr ?_)
      refine TN_rets tys_of () (.inl rfl) rfl (rs := [.tmp 2]) rfl (vs := [_]) ⟨rfl, trivial⟩ (by simp only [mayH, retV]; simp; omega) trivial
  · -- t5 False: (Op.binOp BinOp.geq 3 (Operand.tmp 4) (Operand.const (Value.int IntKind.i64 1)) 3)
    try simp only [decide_eq_true_eq, decide_eq_false_iff_not, beq_iff_eq, bne_iff_ne, beq_eq_false_iff_ne, bne_eq_false_iff_eq, ne_eq, Bool.not_eq_true', Bool.not_eq_false', Decidable.not_not] at h5
    refine TO_puresN 26 tys_of rfl (TO_nil ?_)
    refine TC_ret ?_
    repeat (first | refine TN_thenr ?_ | refine TN_blockr ?_)
    refine TN_rets tys_of () (.inl rfl) rfl (rs := [.tmp 2]) rfl (vs := [_]) ⟨rfl, trivial⟩ (by simp only [mayH, retV]; simp; omega) trivial

def fieldsH : List (Nat × Nat) := [(0, 16), (16, 16), (32, 8), (40, 16), (56, 8)]
theorem fields_fn (S : Hp) : FNs S prog F_header_fields #[] [] (fun r : Slc => r.val) (fun _ => True) (fun r => [Row r T_field_Field 2 (fieldsH.flatMap fldC)]) := by
  refine FNs_of_body func_header_fields rfl ntmps_header_fields rfl ?_
  intro R w0
  refine TC_seq ?_
  refine TC_region ?_
  refine TO_puresN 1 tys_of rfl (TO_nil ?_)
  refine TC_seq ?_
  refine TC_region ?_
  refine TO_puresN 5 tys_of rfl (TO_cons (TOp_buildSliceA tys_of rfl rfl rfl rfl rfl rfl rfl (cells := ([iv 0, iv 16, iv 16, iv 16, iv 32, iv 8, iv 40, iv 16, iv 56, iv 8])) rfl fun b6 => ?_))
  refine TO_puresN 1 tys_of rfl (TO_nil ?_)
  refine TC_ret ?_
  repeat (first | refine TN_thenr ?_ | refine TN_blockr ?_)
  refine TN.rownew b6 5 2 (fieldsH.flatMap fldC) rfl rfl rfl ?_
  refine TN_rets tys_of ⟨some ⟨b6, 0, none⟩, 5, 5⟩ (.inl rfl) rfl (rs := [.tmp 0]) rfl (vs := [_]) ⟨rfl, trivial⟩ rfl trivial

def encR (h : HdrM) : Nat × Nat := if mayH h = true then packR fieldsH [h.slot.toNat, h.count.toNat, h.layout.toNat, 0, 165] 0 else (0, 3)
theorem u64_of {x : Int} (h0 : 0 ≤ x) (h1 : x ≤ 1000000) : IntKind.u64.wrap x = ((x.toNat : Nat) : Int) := by rw [IntKind.wrap_u64]; omega

theorem encode_fn (S : Hp) (h : HdrM) : FNs S prog F_header_Encode #[hdrV h] [] (fun _ : Unit => .tuple #[uv (encR h).1, iv (encR h).2]) (fun _ => True) (fun _ => []) := by
  refine FNs_of_body func_header_Encode rfl ntmps_header_Encode rfl ?_
  intro R w0
  refine TC_seq ?_
  refine TC_region ?_
  refine TO_puresN 0 tys_of rfl (TO_cons (TOp_box rfl rfl rfl fun b1 => ?_))
  refine TN.same b1 (l' := hdrC h) rfl ?_
  refine TO_puresN 2 tys_of rfl (TO_nil ?_)
  refine TC_seq ?_
  refine TC_seq ?_
  refine TC_region ?_
  refine TO_puresN 0 tys_of rfl (TO_cons (TOp_exact rfl (Ex_load tys_of rfl rfl rfl lies_find rfl) ?_))
  refine TO_puresN 0 tys_of rfl (TO_cons (TOp_calls rfl rfl cl_header_may (may_fn _ h) fun y5 hy5 => ?_))
  refine TO_puresN 0 tys_of rfl (TO_cons (TOp_bool tys_of rfl rfl (fun h6 => ?_) (fun h6 => ?_)))
  · -- t6 True: (Op.unOp UnOp.not 4 (Operand.tmp 5))
    try simp only [decide_eq_true_eq, decide_eq_false_iff_not, beq_iff_eq, bne_iff_ne, beq_eq_false_iff_ne, bne_eq_false_iff_eq, ne_eq, Bool.not_eq_true', Bool.not_eq_false', Decidable.not_not] at h6
    refine TO_puresN 0 tys_of rfl (TO_nil ?_)
    refine TC_true rfl ?_
    refine TC_seq ?_
    refine TC_region ?_
    refine TO_puresN 2 tys_of rfl (TO_nil ?_)
    refine TC_ret ?_
    repeat (first | refine TN_thenr ?_ | refine TN_blockr ?_)
    refine TN_rets tys_of () (.inl rfl) rfl (rs := [.tmp 2, .tmp 3]) rfl (vs := [_, _]) ⟨rfl, rfl, trivial⟩ (by rw [show encR h = (0, 3) from if_neg (by rw [h6]; decide)]; rfl) trivial
  · -- t6 False: (Op.unOp UnOp.not 4 (Operand.tmp 5))
    try simp only [decide_eq_true_eq, decide_eq_false_iff_not, beq_iff_eq, bne_iff_ne, beq_eq_false_iff_ne, bne_eq_false_iff_eq, ne_eq, Bool.not_eq_true', Bool.not_eq_false', Decidable.not_not] at h6
    obtain ⟨h1, h2, h3, h4, h5, h6'⟩ := mayH_of h6
    refine TO_puresN 0 tys_of rfl (TO_nil ?_)
    refine TC_false rfl ?_
    refine TC_skip ?_
    refine TC_seq ?_
    refine TC_draw (by kernel_rfl) (sep [cel b1 T_api_Header (hdrC h)]) 16 ?_
    refine TA_reads (fuel := 7) [1, 2, 3, 4, 5, 6, 7, 8, 9] rfl (fun _ _ _ h => h) (by decide +kernel) (by decide +kernel) (by decide +kernel) (by decide +kernel) ent_takes ?_
    refine TR_puresN 1 tys_of rfl (TR_exact rfl (Ex_load tys_of rfl rfl rfl keep_find rfl) ?_)
    refine TR_puresN 1 tys_of rfl ?_
    rw [u64_of h5 (by omega)]
    refine TR_puresN 1 tys_of rfl (TR_exact rfl (Ex_load tys_of rfl rfl rfl keep_find rfl) ?_)
    refine TR_puresN 1 tys_of rfl ?_
    rw [u64_of h3 (by omega)]
    refine TR_puresN 1 tys_of rfl (TR_exact rfl (Ex_load tys_of rfl rfl rfl keep_find rfl) ?_)
    refine TR_puresN 1 tys_of rfl ?_
    rw [u64_of (by omega) (by omega)]
    refine TR_puresN 0 tys_of rfl (TR_done ?_)
    refine TA_have (fuel' := 5) (listed' := #[true, true, true, true, true, true, true, true, true, true, true, false, false, false, false, false]) (fun y : Slc × Nat => True) (fun y : Slc × Nat => ⟨21, [], [(7, y.1.val), (17, .slice (some ⟨y.2, 0, none⟩) 5 5)]⟩) (fun y : Slc × Nat => [Row y.1 T_field_Field 2 (fieldsH.flatMap fldC), Row ⟨some ⟨y.2, 0, none⟩, 5, 5⟩ T_uint64 1 ([h.slot.toNat, h.count.toNat, h.layout.toNat, 0, 165].map uv), cel b1 T_api_Header (hdrC h)]) ?_ ?_
    rotate_left
    · intro tail
      refine TA_two (fuel := 6) 0 10 (by decide +kernel) ?_ ?_
      · refine TOp_calls rfl rfl cl_header_fields (fields_fn _) fun y7 hy7 => ?_
        refine TB_low ent_takes ?_
        refine TA_one (fuel := 5) 10 (by decide +kernel) (TOp_buildSliceC tys_of rfl rfl rfl rfl rfl rfl rfl rfl fun b17 => ?_)
        refine TN.rownew b17 5 1 ([h.slot.toNat, h.count.toNat, h.layout.toNat, 0, 165].map uv) rfl rfl rfl ?_
        refine TB_low ent_takes ?_
        exact TA_use (tail (y7, b17) trivial) (by decide +kernel) (Env.le_of_knows (by repeat first | exact trivial | refine ⟨rfl, ?_⟩))
      · refine TOp_buildSliceC tys_of rfl rfl rfl rfl rfl rfl rfl rfl fun b17 => ?_
        refine TN.rownew b17 5 1 ([h.slot.toNat, h.count.toNat, h.layout.toNat, 0, 165].map uv) rfl rfl rfl ?_
        refine TB_low ent_takes ?_
        refine TA_one (fuel := 5) 0 (by decide +kernel) (TOp_calls rfl rfl cl_header_fields (fields_fn _) fun y7 hy7 => ?_)
        refine TB_low ent_takes ?_
        exact TA_use (tail (y7, b17) trivial) (by decide +kernel) (Env.le_of_knows (by repeat first | exact trivial | refine ⟨rfl, ?_⟩))
    rintro ⟨y7, b17⟩ -
    dsimp only
    refine TA_one (fuel := 4) 11 (by decide +kernel) (TOp_calls rfl rfl cl_field_Pack (pack_fn _ y7 ⟨some ⟨b17, 0, none⟩, 5, 5⟩ fieldsH [h.slot.toNat, h.count.toNat, h.layout.toNat, 0, 165] (by intro x hx; simp at hx; omega) (by decide) (by decide) (by decide) (by decide) rfl) fun y18 hy18 => ?_)
    refine TB_low ent_takes ?_
    refine TA_frees (fuel := 0) [12, 13, 14, 15] rfl (fun _ _ _ h => h) (by decide +kernel) ?_
    refine TR_puresN 4 tys_of rfl (TR_done ?_)
    refine TA_nil ?_ (by decide +kernel)
    refine TC_ret ?_
    repeat (first | refine TN_thenr ?_ | refine TN_blockr ?_)
    refine TN_rets tys_of () (.inl rfl) rfl (rs := [.tmp 2, .tmp 3]) rfl (vs := [_, _]) ⟨rfl, rfl, trivial⟩ (by rw [show encR h = packR fieldsH [h.slot.toNat, h.count.toNat, h.layout.toNat, 0, 165] 0 from if_pos h6]; rfl) trivial
end Go.Sl.Tz

/-
  Separation logic over the model's heap: many things side by side.
-/
namespace Go.Sl
open Go

/-- What is owned of each of some. -/
def big {α : Type} (f : α → List HProp) (l : List α) : HProp := sep (l.flatMap f)
theorem big_nil {α : Type} (f : α → List HProp) : big f [] = emp := rfl
theorem big_append {α : Type} (f : α → List HProp) (l m : List α) : big f (l ++ m) = star (big f l) (big f m) := by
  unfold big; rw [List.flatMap_append, sep_append]
theorem big_cons {α : Type} (f : α → List HProp) (a : α) (l : List α) : big f (a :: l) = star (sep (f a)) (big f l) := by
  unfold big; rw [List.flatMap_cons, sep_append]
theorem big_perm {α : Type} {f : α → List HProp} {l m : List α} (h : l.Perm m) : big f l = big f m := by
  induction h with
  | nil => rfl
  | cons x _ ih => rw [big_cons, big_cons, ih]
  | swap x y l => rw [big_cons, big_cons, big_cons, big_cons, star_left_comm]
  | trans _ _ h1 h2 => exact h1.trans h2
theorem perm_get {α : Type} {l : List α} {i : Nat} (hi : i < l.length) : l.Perm (l[i] :: l.eraseIdx i) := by
  rw [List.eraseIdx_eq_take_drop_succ]
  conv => lhs; rw [← List.take_append_drop i l, List.drop_eq_getElem_cons hi]
  exact List.perm_middle
theorem perm_set {α : Type} {l : List α} {i : Nat} (hi : i < l.length) (y : α) : (l.set i y).Perm (y :: l.eraseIdx i) := by
  have h := perm_get (l := l.set i y) (i := i) (by simpa using hi)
  rw [List.getElem_set_self] at h
  rwa [show (l.set i y).eraseIdx i = l.eraseIdx i by
    rw [List.eraseIdx_eq_take_drop_succ, List.eraseIdx_eq_take_drop_succ, List.take_set_of_le (Nat.le_refl i), List.drop_set_of_lt (by omega)]] at h
section
variable {Γ : Ctx} {K : Act → World → Prop} {E : Env} {L : List HProp} {α : Type}
theorem TN.eq {A B : HProp} (e : A = B) (h : TN Γ K E B) : TN Γ K E A := by rw [e]; exact h
/-- One of many is taken. -/
theorem TN.bigopen (f : α → List HProp) (l : List α) (i : Nat) (hi : i < l.length) {R : List HProp} [ht : Take1 (big f l) L R] (h : TN Γ K E (sep (f l[i] ++ (big f (l.eraseIdx i) :: R)))) : TN Γ K E (sep L) := by
  refine TN.eq ?_ h
  rw [ht.out, big_perm (perm_get hi), big_cons, star_assoc, sep_append]
  rfl
/-- and given back, another one perhaps. -/
theorem TN.bigclose (f : α → List HProp) (l : List α) (i : Nat) (hi : i < l.length) (y : α) {R : List HProp} [ht : Takes (f y ++ [big f (l.eraseIdx i)]) L R] (h : TN Γ K E (sep (big f (l.set i y) :: R))) : TN Γ K E (sep L) := by
  refine TN.eq ?_ h
  show _ = star (big f (l.set i y)) (sep R)
  rw [ht.out, big_perm (perm_set hi y), big_cons, sep_append, sep_one]
/-- One more. -/
theorem TN.bigpush (f : α → List HProp) (l : List α) (y : α) {R : List HProp} [ht : Takes (f y ++ [big f l]) L R] (h : TN Γ K E (sep (big f (l ++ [y]) :: R))) : TN Γ K E (sep L) := by
  refine TN.eq ?_ h
  show _ = star (big f (l ++ [y])) (sep R)
  rw [ht.out, big_append, sep_append, sep_one, big_cons, big_nil, star_emp, star_comm (sep (f y))]
theorem TN.bignil (f : α → List HProp) (h : TN Γ K E (sep (big f [] :: L))) : TN Γ K E (sep L) := by
  refine TN.eq ?_ h
  show _ = star (big f []) (sep L)
  rw [big_nil, emp_star]
end
end Go.Sl

/-
  The contracts of layout's Book. By mk.py out of spec/SlBook.spec.
-/
namespace Go.Sl.Tz
open Go Go.Proofs Go.Sl
set_option maxRecDepth 100000

theorem row_nil {Γ : Ctx} {K : Act → World → Prop} {E : Env} {L : List HProp} (s : Slc) {t : TypeId} {sz : Nat} {xs : List Value} {R : List HProp} [ht : FindRow s L t sz xs R] (hs : s.a.isNone = true) (h : xs = [] → TN Γ K E (sep L)) : TN Γ K E (sep L) := by
  intro a w ha hw
  refine h ?_ a w ha hw
  have hs' := hw.1
  rw [ht.out, star_assoc] at hs'
  obtain ⟨x, hx, -⟩ := Row.sat hs'
  cases x with
  | none => exact hx.2
  | some x =>
    have := hx.1
    rw [this] at hs
    cases hs

theorem clone_fn (S : Hp) (s : Slc) (xs : List Int) (hb : xs.length ≤ 4294967296) : FNs S prog F_slices_Clone_int_int #[s.val] [Row s T_int 1 (xs.map iv)] (fun r : Slc => r.val) (fun _ => True) (fun r => [Row s T_int 1 (xs.map iv), Row r T_int 1 (xs.map iv)]) := by
  refine FNs_of_body func_slices_Clone_int_int rfl ntmps_slices_Clone_int_int rfl ?_
  intro R w0
  refine TN.rowlen s fun hn => ?_
  replace hn : xs.length = s.n := by simpa using hn
  refine TC_seq ?_
  refine TC_region ?_
  refine TO_puresN 1 tys_of rfl (TO_nil ?_)
  refine TC_seq ?_
  refine TC_seq ?_
  refine TC_region ?_
  refine TO_puresN 1 tys_of rfl (TO_cons (TOp_bool tys_of rfl rfl (fun h4 => ?_) (fun h4 => ?_)))
  · -- t4 True: (Op.binOp BinOp.eql 25 (Operand.tmp 3) (Operand.const (Value.slice none 0 0)) 25)
    try simp only [decide_eq_true_eq, decide_eq_false_iff_not, beq_iff_eq, bne_iff_ne, beq_eq_false_iff_ne, bne_eq_false_iff_eq, ne_eq, Bool.not_eq_true', Bool.not_eq_false', Decidable.not_not] at h4
    refine TO_puresN 0 tys_of rfl (TO_nil ?_)
    refine TC_true rfl ?_
    refine TC_seq ?_
    refine TC_region ?_
    refine TO_puresN 1 tys_of rfl (TO_nil ?_)
    refine TC_ret ?_
    repeat (first | refine TN_thenr ?_ | refine TN_blockr ?_)
    refine row_nil s h4 fun hx => ?_
    rw [hx]
    refine TN.nilrow T_int 1 (xs := []) rfl ?_
    refine TN_rets tys_of nilS (.inl rfl) rfl (rs := [.tmp 2]) rfl (vs := [_]) ⟨rfl, trivial⟩ rfl trivial
  · -- t4 False: (Op.binOp BinOp.eql 25 (Operand.tmp 3) (Operand.const (Value.slice none 0 0)) 25)
    try simp only [decide_eq_true_eq, decide_eq_false_iff_not, beq_iff_eq, bne_iff_ne, beq_eq_false_iff_ne, bne_eq_false_iff_eq, ne_eq, Bool.not_eq_true', Bool.not_eq_false', Decidable.not_not] at h4
    refine TO_puresN 0 tys_of rfl (TO_nil ?_)
    refine TC_false rfl ?_
    refine TC_skip ?_
    refine TC_seq ?_
    refine TC_region ?_
    refine TO_puresN 0 tys_of rfl (TO_cons (TOp_buildSliceC tys_of rfl rfl rfl rfl rfl rfl rfl rfl fun b5 => ?_))
    refine TN.rownew b5 0 1 [] rfl rfl rfl ?_
    refine TO_puresN 1 tys_of rfl (TO_cons (TOp_append (s := ⟨some ⟨b5, 0, none⟩, 0, 0⟩) (r := s) tys_of rfl rfl rfl rfl rfl rfl rfl rfl rfl rfl (by rfl) (by show (0 + s.n) * 8 ≤ _; omega) fun s7 hs7 => ?_))
    refine TN.rowsame s7 (xs' := xs.map iv) rfl ?_
    refine TO_puresN 1 tys_of rfl (TO_nil ?_)
    refine TC_ret ?_
    repeat (first | refine TN_thenr ?_ | refine TN_blockr ?_)
    refine TN_rets tys_of s7 (.inl rfl) rfl (rs := [.tmp 2]) rfl (vs := [_]) ⟨rfl, trivial⟩ rfl trivial

theorem own_fn (S : Hp) (l : Lay) (hl : LayB l) (a b : Slc) : FNs S prog F_layout_own #[layV l a b] (LayR l a b) (fun r : Slc × Slc => layV l r.1 r.2) (fun _ => True) (fun r => LayR l r.1 r.2 ++ LayR l a b) := by
  refine FNs_of_body func_layout_own rfl ntmps_layout_own rfl ?_
  intro R w0
  refine TC_seq ?_
  refine TC_region ?_
  refine TO_puresN 0 tys_of rfl (TO_cons (TOp_box rfl rfl rfl fun b1 => ?_))
  refine TN.same b1 (l' := layC l a b) rfl ?_
  refine TO_puresN 0 tys_of rfl (TO_cons (TOp_alloc tys_of rfl rfl rfl fun b2 => ?_))
  refine TO_puresN 0 tys_of rfl (TO_nil ?_)
  refine TC_seq ?_
  refine TC_draw (by kernel_rfl) (sep [cel b1 T_api_Layout (layC l a b)]) 7 ?_
  refine TA_reads (fuel := 6) [0, 1, 3, 4] rfl (fun _ _ _ h => h) (by decide +kernel) (by decide +kernel) (by decide +kernel) (by decide +kernel) ent_takes ?_
  refine TR_puresN 1 tys_of rfl (TR_exact rfl (Ex_load tys_of rfl rfl rfl keep_find rfl) ?_)
  refine TR_puresN 1 tys_of rfl (TR_exact rfl (Ex_load tys_of rfl rfl rfl keep_find rfl) ?_)
  refine TR_puresN 0 tys_of rfl (TR_done ?_)
  refine TA_one (fuel := 5) 2 (by decide +kernel) (TOp_calls rfl rfl cl_slices_Clone_int_int (clone_fn _ a l.refs (by have := hl.refs; omega)) fun y5 hy5 => ?_)
  refine TB_low ent_takes ?_
  refine TA_frees (fuel := 4) [6] rfl (fun _ _ _ h => h) (by decide +kernel) ?_
  refine TR_puresN 1 tys_of rfl (TR_done ?_)
  refine TA_one (fuel := 3) 5 (by decide +kernel) (TOp_calls rfl rfl cl_slices_Clone_int_int (clone_fn _ b l.recRefs (by have := hl.recRefs; omega)) fun y8 hy8 => ?_)
  refine TB_low ent_takes ?_
  refine TA_one (fuel := 2) 7 (by decide +kernel) (TOp_store tys_of rfl rfl rfl rfl rfl rfl rfl rfl ?_)
  refine TB_high (by decide) ?_
  refine TA_frees (fuel := 1) [8] rfl (fun _ _ _ h => h) (by decide +kernel) ?_
  refine TR_puresN 1 tys_of rfl (TR_done ?_)
  refine TA_one (fuel := 0) 9 (by decide +kernel) (TOp_store tys_of rfl rfl rfl rfl rfl rfl rfl rfl ?_)
  refine TB_high (by decide) ?_
  refine TA_nil ?_ (by decide +kernel)
  refine TC_seq ?_
  refine TC_region ?_
  refine TO_puresN 0 tys_of rfl (TO_cons (TOp_exact rfl (Ex_load tys_of rfl rfl rfl lies_find rfl) ?_))
  refine TO_puresN 0 tys_of rfl (TO_cons (TOp_store tys_of rfl rfl rfl rfl rfl rfl rfl rfl ?_))
  refine TO_puresN 0 tys_of rfl (TO_nil ?_)
  refine TC_ret ?_
  repeat (first | refine TN_thenr ?_ | refine TN_blockr ?_)
  refine TN_rets tys_of (y5, y8) (.inl rfl) rfl (rs := [.cell 2 111]) rfl (vs := [_]) ⟨⟨_, _, _, _, _, _, rfl, rfl, lies_find, rfl⟩, trivial⟩ rfl trivial

def sizeR (l : Lay) (count : Int) : Int × Int :=
  if rightM l = false then (0, 2) else if count < 0 ∨ count > 1024 ∨ count > 0 ∧ l.record = 0 then (0, 3) else if l.fixed + count * l.record ≥ 8192 then (0, 10) else (l.fixed + count * l.record, 0)
theorem rightM_le {l : Lay} (h : rightM l = true) : 0 ≤ l.fixed ∧ l.fixed ≤ 64 ∧ 0 ≤ l.record ∧ l.record ≤ 64 := by
  simp only [rightM, Bool.and_eq_true, decide_eq_true_eq] at h
  omega
theorem mul_le_of {a b m n : Int} (ha : 0 ≤ a) (hm : a ≤ m) (hb : 0 ≤ b) (hn : b ≤ n) : 0 ≤ a * b ∧ a * b ≤ m * n :=
  ⟨Int.mul_nonneg ha hb, Int.mul_le_mul hm hn hb (by omega)⟩

theorem size_fn (S : Hp) (l : Lay) (hl : LayB l) (a b : Slc) (count : Int) : FNs S prog F_layout_Size #[layV l a b, iv count] (LayR l a b) (fun (_ : Unit) => .tuple #[iv (sizeR l count).1, iv (sizeR l count).2]) (fun _ => True) (fun _ => LayR l a b) := by
  refine FNs_of_body func_layout_Size rfl ntmps_layout_Size rfl ?_
  intro R w0
  refine TC_seq ?_
  refine TC_region ?_
  refine TO_puresN 0 tys_of rfl (TO_cons (TOp_box rfl rfl rfl fun b2 => ?_))
  refine TN.same b2 (l' := layC l a b) rfl ?_
  refine TO_puresN 2 tys_of rfl (TO_nil ?_)
  refine TC_seq ?_
  refine TC_block ?_
  refine TC_seq ?_
  refine TC_region ?_
  refine TO_puresN 0 tys_of rfl (TO_cons (TOp_exact rfl (Ex_load tys_of rfl rfl rfl lies_find rfl) ?_))
  refine TO_puresN 0 tys_of rfl (TO_cons (TOp_calls rfl rfl cl_layout_Right (right_layout_fn _ l hl a b) fun y9 hy9 => ?_))
  refine TO_puresN 0 tys_of rfl (TO_cons (TOp_bool tys_of rfl rfl (fun h10 => ?_) (fun h10 => ?_)))
  · -- t10 True: (Op.unOp UnOp.not 4 (Operand.tmp 9))
    try simp only [decide_eq_true_eq, decide_eq_false_iff_not, beq_iff_eq, bne_iff_ne, beq_eq_false_iff_ne, bne_eq_false_iff_eq, ne_eq, Bool.not_eq_true', Bool.not_eq_false', Decidable.not_not] at h10
    refine TO_puresN 1 tys_of rfl (TO_nil ?_)
    refine TC_true rfl ?_
    refine TC_seq ?_
    refine TC_region ?_
    refine TO_puresN 2 tys_of rfl (TO_nil ?_)
    refine TC_ret ?_
    repeat (first | refine TN_thenr ?_ | refine TN_blockr ?_)
    refine TN_rets tys_of () (.inl rfl) rfl (rs := [.tmp 4, .tmp 5]) rfl (vs := [_, _]) ⟨rfl, rfl, trivial⟩ (by rw [show sizeR l count = (0, 2) from if_pos h10]; rfl) trivial
  · -- t10 False: (Op.unOp UnOp.not 4 (Operand.tmp 9))
    try simp only [decide_eq_true_eq, decide_eq_false_iff_not, beq_iff_eq, bne_iff_ne, beq_eq_false_iff_ne, bne_eq_false_iff_eq, ne_eq, Bool.not_eq_true', Bool.not_eq_false', Decidable.not_not] at h10
    obtain ⟨hr1, hr2, hr3, hr4⟩ := rightM_le h10
    refine TO_puresN 1 tys_of rfl (TO_nil ?_)
    refine TC_false rfl ?_
    refine TC_seq ?_
    refine TC_region ?_
    refine TO_puresN 1 tys_of rfl (TO_cons (TOp_bool tys_of rfl rfl (fun h13 => ?_) (fun h13 => ?_)))
    · -- t13 True: (Op.binOp BinOp.lss 3 (Operand.tmp 12) (Operand.const (Value.int IntKind.i64 0)) 3)
      try simp only [decide_eq_true_eq, decide_eq_false_iff_not, beq_iff_eq, bne_iff_ne, beq_eq_false_iff_ne, bne_eq_false_iff_eq, ne_eq, Bool.not_eq_true', Bool.not_eq_false', Decidable.not_not] at h13
      refine TO_puresN 14 tys_of rfl (TO_nil ?_)
      refine TC_true rfl ?_
      refine TC_seq ?_
      refine TC_region ?_
      refine TO_puresN 2 tys_of rfl (TO_nil ?_)
      refine TC_ret ?_
      repeat (first | refine TN_thenr ?_ | refine TN_blockr ?_)
      refine TN_rets tys_of () (.inl rfl) rfl (rs := [.tmp 4, .tmp 5]) rfl (vs := [_, _]) ⟨rfl, rfl, trivial⟩ (by rw [show sizeR l count = (0, 3) by unfold sizeR; rw [h10, if_neg (by decide), if_pos (by omega)]]; rfl) trivial
    · -- t13 False: (Op.binOp BinOp.lss 3 (Operand.tmp 12) (Operand.const (Value.int IntKind.i64 0)) 3)
      try simp only [decide_eq_true_eq, decide_eq_false_iff_not, beq_iff_eq, bne_iff_ne, beq_eq_false_iff_ne, bne_eq_false_iff_eq, ne_eq, Bool.not_eq_true', Bool.not_eq_false', Decidable.not_not] at h13
      refine TO_puresN 2 tys_of rfl (TO_cons (TOp_bool tys_of rfl rfl (fun h16 => ?_) (fun h16 => ?_)))
      · -- t16 True: (Op.binOp BinOp.gtr 3 (Operand.tmp 15) (Operand.const (Value.int IntKind.i64 1024)) 3)
        try simp only [decide_eq_true_eq, decide_eq_false_iff_not, beq_iff_eq, bne_iff_ne, beq_eq_false_iff_ne, bne_eq_false_iff_eq, ne_eq, Bool.not_eq_true', Bool.not_eq_false', Decidable.not_not] at h16
        refine TO_puresN 11 tys_of rfl (TO_nil ?_)
        refine TC_true rfl ?_
        refine TC_seq ?_
        refine TC_region ?_
        refine TO_puresN 2 tys_of rfl (TO_nil ?_)
        refine TC_ret ?_
        repeat (first | refine TN_thenr ?_ | refine TN_blockr ?_)
        refine TN_rets tys_of () (.inl rfl) rfl (rs := [.tmp 4, .tmp 5]) rfl (vs := [_, _]) ⟨rfl, rfl, trivial⟩ (by rw [show sizeR l count = (0, 3) by unfold sizeR; rw [h10, if_neg (by decide), if_pos (by omega)]]; rfl) trivial
      · -- t16 False: (Op.binOp BinOp.gtr 3 (Operand.tmp 15) (Operand.const (Value.int IntKind.i64 1024)) 3)
        try simp only [decide_eq_true_eq, decide_eq_false_iff_not, beq_iff_eq, bne_iff_ne, beq_eq_false_iff_ne, bne_eq_false_iff_eq, ne_eq, Bool.not_eq_true', Bool.not_eq_false', Decidable.not_not] at h16
        refine TO_puresN 3 tys_of rfl (TO_cons (TOp_bool tys_of rfl rfl (fun h20 => ?_) (fun h20 => ?_)))
        · -- t20 True: (Op.binOp BinOp.gtr 3 (Operand.tmp 19) (Operand.const (Value.int IntKind.i64 0)) 3)
          try simp only [decide_eq_true_eq, decide_eq_false_iff_not, beq_iff_eq, bne_iff_ne, beq_eq_false_iff_ne, bne_eq_false_iff_eq, ne_eq, Bool.not_eq_true', Bool.not_eq_false', Decidable.not_not] at h20
          refine TO_puresN 2 tys_of rfl (TO_cons (TOp_exact rfl (Ex_load tys_of rfl rfl rfl lies_find rfl) ?_))
          refine TO_puresN 0 tys_of rfl (TO_cons (TOp_bool tys_of rfl rfl (fun h24 => ?_) (fun h24 => ?_)))
          · -- t24 True: (Op.binOp BinOp.eql 3 (Operand.tmp 23) (Operand.const (Value.int IntKind.i64 0)) 3)
            try simp only [decide_eq_true_eq, decide_eq_false_iff_not, beq_iff_eq, bne_iff_ne, beq_eq_false_iff_ne, bne_eq_false_iff_eq, ne_eq, Bool.not_eq_true', Bool.not_eq_false', Decidable.not_not] at h24
            refine TO_puresN 3 tys_of rfl (TO_nil ?_)
            refine TC_true rfl ?_
            refine TC_seq ?_
            refine TC_region ?_
            refine TO_puresN 2 tys_of rfl (TO_nil ?_)
            refine TC_ret ?_
            repeat (first | refine TN_thenr ?_ | refine TN_blockr ?_)
            refine TN_rets tys_of () (.inl rfl) rfl (rs := [.tmp 4, .tmp 5]) rfl (vs := [_, _]) ⟨rfl, rfl, trivial⟩ (by rw [show sizeR l count = (0, 3) by unfold sizeR; rw [h10, if_neg (by decide), if_pos (by omega)]]; rfl) trivial
          · -- t24 False: (Op.binOp BinOp.eql 3 (Operand.tmp 23) (Operand.const (Value.int IntKind.i64 0)) 3)
            try simp only [decide_eq_true_eq, decide_eq_false_iff_not, beq_iff_eq, bne_iff_ne, beq_eq_false_iff_ne, bne_eq_false_iff_eq, ne_eq, Bool.not_eq_true', Bool.not_eq_false', Decidable.not_not] at h24
            refine TO_puresN 3 tys_of rfl (TO_nil ?_)
            refine TC_false rfl ?_
            refine TC_skip ?_
            try refine TN_blockn ?_
            refine TC_seq ?_
            refine TC_region ?_
            refine TO_puresN 1 tys_of rfl (TO_cons (TOp_exact rfl (Ex_load tys_of rfl rfl rfl lies_find rfl) ?_))
            have hcm := mul_le_of (a := count) (b := l.record) (m := 1024) (n := 64) (by omega) (by omega) hr3 hr4
            refine TO_puresN 2 tys_of rfl (TO_cons (TOp_exact rfl (Ex_load tys_of rfl rfl rfl lies_find rfl) ?_))
            refine TO_puresN 1 tys_of rfl ?_
            rw [wrap_i64 (by omega) (by omega)]
            refine TO_puresN 1 tys_of rfl ?_
            rw [wrap_i64 (by omega) (by omega)]
            refine TO_puresN 1 tys_of rfl (TO_nil ?_)
            refine TC_seq ?_
            refine TC_seq ?_
            refine TC_region ?_
            refine TO_puresN 1 tys_of rfl (TO_cons (TOp_bool tys_of rfl rfl (fun h35 => ?_) (fun h35 => ?_)))
            · -- t35 True: (Op.binOp BinOp.geq 3 (Operand.tmp 34) (Operand.const (Value.int IntKind.i64 8192)) 3)
              try simp only [decide_eq_true_eq, decide_eq_false_iff_not, beq_iff_eq, bne_iff_ne, beq_eq_false_iff_ne, bne_eq_false_iff_eq, ne_eq, Bool.not_eq_true', Bool.not_eq_false', Decidable.not_not] at h35
              refine TO_puresN 0 tys_of rfl (TO_nil ?_)
              refine TC_true rfl ?_
              refine TC_seq ?_
              refine TC_region ?_
              refine TO_puresN 2 tys_of rfl (TO_nil ?_)
              refine TC_ret ?_
              repeat (first | refine TN_thenr ?_ | refine TN_blockr ?_)
              refine TN_rets tys_of () (.inl rfl) rfl (rs := [.tmp 4, .tmp 5]) rfl (vs := [_, _]) ⟨rfl, rfl, trivial⟩ (by rw [show sizeR l count = (0, 10) by unfold sizeR; rw [h10, if_neg (by decide), if_neg (by omega), if_pos (by omega)]]; rfl) trivial
            · -- t35 False: (Op.binOp BinOp.geq 3 (Operand.tmp 34) (Operand.const (Value.int IntKind.i64 8192)) 3)
              try simp only [decide_eq_true_eq, decide_eq_false_iff_not, beq_iff_eq, bne_iff_ne, beq_eq_false_iff_ne, bne_eq_false_iff_eq, ne_eq, Bool.not_eq_true', Bool.not_eq_false', Decidable.not_not] at h35
              refine TO_puresN 0 tys_of rfl (TO_nil ?_)
              refine TC_false rfl ?_
              refine TC_skip ?_
              refine TC_seq ?_
              refine TC_region ?_
              refine TO_puresN 3 tys_of rfl (TO_nil ?_)
              refine TC_ret ?_
              repeat (first | refine TN_thenr ?_ | refine TN_blockr ?_)
              refine TN_rets tys_of () (.inl rfl) rfl (rs := [.tmp 4, .tmp 5]) rfl (vs := [_, _]) ⟨rfl, rfl, trivial⟩ (by rw [show sizeR l count = (l.fixed + count * l.record, 0) by unfold sizeR; rw [h10, if_neg (by decide), if_neg (by omega), if_neg (by omega)]]; rfl) trivial
        · -- t20 False: (Op.binOp BinOp.gtr 3 (Operand.tmp 19) (Operand.const (Value.int IntKind.i64 0)) 3)
          try simp only [decide_eq_true_eq, decide_eq_false_iff_not, beq_iff_eq, bne_iff_ne, beq_eq_false_iff_ne, bne_eq_false_iff_eq, ne_eq, Bool.not_eq_true', Bool.not_eq_false', Decidable.not_not] at h20
          refine TO_puresN 7 tys_of rfl (TO_nil ?_)
          refine TC_false rfl ?_
          refine TC_skip ?_
          try refine TN_blockn ?_
          refine TC_seq ?_
          refine TC_region ?_
          refine TO_puresN 1 tys_of rfl (TO_cons (TOp_exact rfl (Ex_load tys_of rfl rfl rfl lies_find rfl) ?_))
          have hcm := mul_le_of (a := count) (b := l.record) (m := 1024) (n := 64) (by omega) (by omega) hr3 hr4
          refine TO_puresN 2 tys_of rfl (TO_cons (TOp_exact rfl (Ex_load tys_of rfl rfl rfl lies_find rfl) ?_))
          refine TO_puresN 1 tys_of rfl ?_
          rw [wrap_i64 (by omega) (by omega)]
          refine TO_puresN 1 tys_of rfl ?_
          rw [wrap_i64 (by omega) (by omega)]
          refine TO_puresN 1 tys_of rfl (TO_nil ?_)
          refine TC_seq ?_
          refine TC_seq ?_
          refine TC_region ?_
          refine TO_puresN 1 tys_of rfl (TO_cons (TOp_bool tys_of rfl rfl (fun h35 => ?_) (fun h35 => ?_)))
          · -- t35 True: (Op.binOp BinOp.geq 3 (Operand.tmp 34) (Operand.const (Value.int IntKind.i64 8192)) 3)
            try simp only [decide_eq_true_eq, decide_eq_false_iff_not, beq_iff_eq, bne_iff_ne, beq_eq_false_iff_ne, bne_eq_false_iff_eq, ne_eq, Bool.not_eq_true', Bool.not_eq_false', Decidable.not_not] at h35
            refine TO_puresN 0 tys_of rfl (TO_nil ?_)
            refine TC_true rfl ?_
            refine TC_seq ?_
            refine TC_region ?_
            refine TO_puresN 2 tys_of rfl (TO_nil ?_)
            refine TC_ret ?_
            repeat (first | refine TN_thenr ?_ | refine TN_blockr ?_)
            refine TN_rets tys_of () (.inl rfl) rfl (rs := [.tmp 4, .tmp 5]) rfl (vs := [_, _]) ⟨rfl, rfl, trivial⟩ (by rw [show sizeR l count = (0, 10) by unfold sizeR; rw [h10, if_neg (by decide), if_neg (by omega), if_pos (by omega)]]; rfl) trivial
          · -- t35 False: (Op.binOp BinOp.geq 3 (Operand.tmp 34) (Operand.const (Value.int IntKind.i64 8192)) 3)
            try simp only [decide_eq_true_eq, decide_eq_false_iff_not, beq_iff_eq, bne_iff_ne, beq_eq_false_iff_ne, bne_eq_false_iff_eq, ne_eq, Bool.not_eq_true', Bool.not_eq_false', Decidable.not_not] at h35
            refine TO_puresN 0 tys_of rfl (TO_nil ?_)
            refine TC_false rfl ?_
            refine TC_skip ?_
            refine TC_seq ?_
            refine TC_region ?_
            refine TO_puresN 3 tys_of rfl (TO_nil ?_)
            refine TC_ret ?_
            repeat (first | refine TN_thenr ?_ | refine TN_blockr ?_)
            refine TN_rets tys_of () (.inl rfl) rfl (rs := [.tmp 4, .tmp 5]) rfl (vs := [_, _]) ⟨rfl, rfl, trivial⟩ (by rw [show sizeR l count = (l.fixed + count * l.record, 0) by unfold sizeR; rw [h10, if_neg (by decide), if_neg (by omega), if_neg (by omega)]]; rfl) trivial

/-! ### The book -/
abbrev BkE := Lay × Slc × Slc
def bkC (x : BkE) : List Value := layC x.1 x.2.1 x.2.2
abbrev bkR (x : BkE) : List HProp := LayR x.1 x.2.1 x.2.2
theorem bkC_len (x : BkE) : (bkC x).length = 4 := rfl
/-- Layouts that are right, 64 of them at most. -/
structure BookOK (ls : List Lay) : Prop where
  len : ls.length ≤ 64
  right : ∀ l ∈ ls, rightM l = true
  small : ∀ l ∈ ls, LayB l
def Book (p : Nat) (ls : List Lay) : HProp := Pack (fun x : Slc × List BkE => x.2.map (·.1) = ls ∧ BookOK ls ∧ x.2.length = x.1.n)
  (fun x => [cel p T_layout_Book [x.1.val], Row x.1 T_api_Layout 4 (x.2.flatMap bkC), big bkR x.2])

theorem newBook_fn (S : Hp) : FNs S prog F_layout_NewBook #[] [] (fun p : Nat => .pointer (some ⟨p, 0, none⟩)) (fun _ => True) (fun p => [Book p []]) := by
  refine FNs_of_body func_layout_NewBook rfl ntmps_layout_NewBook rfl ?_
  intro R w0
  refine TC_seq ?_
  refine TC_region ?_
  refine TO_puresN 1 tys_of rfl (TO_nil ?_)
  refine TC_seq ?_
  refine TC_region ?_
  refine TO_puresN 1 tys_of rfl (TO_cons (TOp_box rfl rfl rfl fun b2 => ?_))
  refine TN.same b2 (l' := [nilS.val]) rfl ?_
  refine TO_puresN 1 tys_of rfl (TO_nil ?_)
  refine TC_ret ?_
  repeat (first | refine TN_thenr ?_ | refine TN_blockr ?_)
  refine TN.nilrow T_api_Layout 4 (xs := ([] : List BkE).flatMap bkC) rfl ?_
  refine TN.bignil bkR ?_
  refine TN.fold (Book b2 []) (ent_pack (nilS, []) ⟨rfl, ⟨by decide, by simp, by simp⟩, rfl⟩) ?_
  refine TN_rets tys_of b2 (.inl rfl) rfl (rs := [.tmp 0]) rfl (vs := [_]) ⟨rfl, trivial⟩ rfl trivial

def addR (ls : List Lay) (l : Lay) : Int × Int := if rightM l = false then (0, 2) else if ls.length = 64 then (0, 5) else (((ls.length + 1 : Nat) : Int), 0)
def addL (ls : List Lay) (l : Lay) : List Lay := if rightM l = false ∨ ls.length = 64 then ls else ls ++ [l]

theorem bookAdd_fn (S : Hp) (p : Nat) (ls : List Lay) (l : Lay) (hl : LayB l) (a b : Slc) :
    FNs S prog F_layout_Book_Add #[.pointer (some ⟨p, 0, none⟩), layV l a b] (Book p ls :: LayR l a b) (fun _ : Unit => .tuple #[iv (addR ls l).1, iv (addR ls l).2]) (fun _ => True) (fun _ => Book p (addL ls l) :: LayR l a b) := by
  refine FNs_of_body func_layout_Book_Add rfl ntmps_layout_Book_Add rfl ?_
  intro R w0
  refine TN.unpack fun ⟨s, es⟩ hx => ?_
  obtain ⟨he, hok, hn⟩ := hx
  dsimp only at he hn ⊢
  have hls : ls.length = s.n := by rw [← he, List.length_map, hn]
  refine TC_seq ?_
  refine TC_region ?_
  refine TO_puresN 0 tys_of rfl (TO_cons (TOp_box rfl rfl rfl fun b3 => ?_))
  refine TN.same b3 (l' := layC l a b) rfl ?_
  refine TO_puresN 2 tys_of rfl (TO_nil ?_)
  refine TC_seq ?_
  refine TC_block ?_
  refine TC_seq ?_
  refine TC_region ?_
  refine TO_puresN 3 tys_of rfl (TO_nil ?_)
  refine TC_false rfl ?_
  refine TC_seq ?_
  refine TC_region ?_
  refine TO_puresN 0 tys_of rfl (TO_cons (TOp_exact rfl (Ex_load tys_of rfl rfl rfl lies_find rfl) ?_))
  refine TO_puresN 0 tys_of rfl (TO_cons (TOp_calls rfl rfl cl_layout_Right (right_layout_fn _ l hl a b) fun y11 hy11 => ?_))
  refine TO_puresN 0 tys_of rfl (TO_cons (TOp_bool tys_of rfl rfl (fun h12 => ?_) (fun h12 => ?_)))
  · -- t12 True: (Op.unOp UnOp.not 4 (Operand.tmp 11))
    try simp only [decide_eq_true_eq, decide_eq_false_iff_not, beq_iff_eq, bne_iff_ne, beq_eq_false_iff_ne, bne_eq_false_iff_eq, ne_eq, Bool.not_eq_true', Bool.not_eq_false', Decidable.not_not] at h12
    refine TO_puresN 1 tys_of rfl (TO_nil ?_)
    refine TC_true rfl ?_
    refine TC_seq ?_
    refine TC_region ?_
    refine TO_puresN 2 tys_of rfl (TO_nil ?_)
    refine TC_ret ?_
    repeat (first | refine TN_thenr ?_ | refine TN_blockr ?_)
    rw [show addR ls l = (0, 2) from if_pos h12, show addL ls l = ls from if_pos (.inl h12)]
    refine TN.fold (Book p ls) (ent_pack (s, es) ⟨he, hok, hn⟩) ?_
    refine TN_rets tys_of () (.inl rfl) rfl (rs := [.tmp 4, .tmp 5]) rfl (vs := [_, _]) ⟨rfl, rfl, trivial⟩ rfl trivial
  · -- t12 False: (Op.unOp UnOp.not 4 (Operand.tmp 11))
    try simp only [decide_eq_true_eq, decide_eq_false_iff_not, beq_iff_eq, bne_iff_ne, beq_eq_false_iff_ne, bne_eq_false_iff_eq, ne_eq, Bool.not_eq_true', Bool.not_eq_false', Decidable.not_not] at h12
    refine TO_puresN 1 tys_of rfl (TO_nil ?_)
    refine TC_false rfl ?_
    refine TC_seq ?_
    refine TC_region ?_
    refine TO_puresN 3 tys_of rfl (TO_cons (TOp_exact rfl (Ex_load tys_of rfl rfl rfl lies_find rfl) ?_))
    refine TO_puresN 1 tys_of rfl (TO_cons (TOp_bool tys_of rfl rfl (fun h19 => ?_) (fun h19 => ?_)))
    · -- t19 True: (Op.binOp BinOp.eql 3 (Operand.tmp 18) (Operand.const (Value.int IntKind.i64 64)) 3)
      try simp only [decide_eq_true_eq, decide_eq_false_iff_not, beq_iff_eq, bne_iff_ne, beq_eq_false_iff_ne, bne_eq_false_iff_eq, ne_eq, Bool.not_eq_true', Bool.not_eq_false', Decidable.not_not] at h19
      refine TO_puresN 1 tys_of rfl (TO_nil ?_)
      refine TC_true rfl ?_
      refine TC_seq ?_
      refine TC_region ?_
      refine TO_puresN 2 tys_of rfl (TO_nil ?_)
      refine TC_ret ?_
      repeat (first | refine TN_thenr ?_ | refine TN_blockr ?_)
      have hn12 : ¬ rightM l = false := by rw [h12]; decide
      have h64 : ls.length = 64 := by omega
      rw [show addR ls l = (0, 5) by unfold addR; rw [if_neg hn12, if_pos h64], show addL ls l = ls from if_pos (.inr h64)]
      refine TN.fold (Book p ls) (ent_pack (s, es) ⟨he, hok, hn⟩) ?_
      refine TN_rets tys_of () (.inl rfl) rfl (rs := [.tmp 4, .tmp 5]) rfl (vs := [_, _]) ⟨rfl, rfl, trivial⟩ rfl trivial
    · -- t19 False: (Op.binOp BinOp.eql 3 (Operand.tmp 18) (Operand.const (Value.int IntKind.i64 64)) 3)
      try simp only [decide_eq_true_eq, decide_eq_false_iff_not, beq_iff_eq, bne_iff_ne, beq_eq_false_iff_ne, bne_eq_false_iff_eq, ne_eq, Bool.not_eq_true', Bool.not_eq_false', Decidable.not_not] at h19
      refine TO_puresN 1 tys_of rfl (TO_nil ?_)
      refine TC_false rfl ?_
      refine TC_skip ?_
      try refine TN_blockn ?_
      refine TC_seq ?_
      have hn12 : ¬ rightM l = false := by rw [h12]; decide
      have h64 : ¬ ls.length = 64 := by omega
      have hle := hok.len
      refine TC_draw (by kernel_rfl) (sep [cel p T_layout_Book [s.val], cel b3 T_api_Layout (layC l a b)]) 11 ?_
      refine TA_reads (fuel := 6) [0, 1, 2, 3, 4, 5] rfl (fun _ _ _ h => h) (by decide +kernel) (by decide +kernel) (by decide +kernel) (by decide +kernel) ent_takes ?_
      refine TR_puresN 4 tys_of rfl (TR_exact rfl (Ex_load tys_of rfl rfl rfl keep_find rfl) ?_)
      refine TR_puresN 0 tys_of rfl (TR_exact rfl (Ex_load tys_of rfl rfl rfl keep_find rfl) ?_)
      refine TR_puresN 0 tys_of rfl (TR_done ?_)
      refine TA_one (fuel := 5) 6 (by decide +kernel) (TOp_calls rfl rfl cl_layout_own (own_fn _ l hl a b) fun y26 hy26 => ?_)
      refine TB_low ent_takes ?_
      refine TA_one (fuel := 4) 7 (by decide +kernel) (TOp_buildSliceA tys_of rfl rfl rfl rfl rfl rfl rfl (cells := (layC l y26.1 y26.2)) rfl fun b27 => ?_)
      refine TB_low ent_takes ?_
      refine TA_one (fuel := 3) 8 (by decide +kernel) (TOp_append1 (s := s) tys_of rfl rfl rfl rfl rfl rfl rfl rfl rfl rfl (by rfl) rfl rfl rfl rfl rfl (by omega) fun s28 hs28 => ?_)
      refine TN.rowsame s28 (xs' := (es ++ [(l, y26.1, y26.2)]).flatMap bkC) (by simp [bkC]) ?_
      refine TB_low ent_takes ?_
      refine TA_frees (fuel := 1) [9, 10] rfl (fun _ _ _ h => h) (by decide +kernel) ?_
      refine TR_puresN 2 tys_of rfl (TR_done ?_)
      refine TA_one (fuel := 0) 11 (by decide +kernel) (TOp_store tys_of rfl rfl rfl rfl rfl rfl rfl rfl ?_)
      refine TN.same p (l' := [s28.val]) rfl ?_
      refine TB_high (by decide) ?_
      refine TA_nil ?_ (by decide +kernel)
      refine TC_seq ?_
      refine TC_region ?_
      refine TO_puresN 3 tys_of rfl (TO_cons (TOp_exact rfl (Ex_load tys_of rfl rfl rfl lies_find rfl) ?_))
      refine TO_puresN 3 tys_of rfl (TO_nil ?_)
      refine TC_ret ?_
      repeat (first | refine TN_thenr ?_ | refine TN_blockr ?_)
      rw [show addR ls l = (((ls.length + 1 : Nat) : Int), 0) by unfold addR; rw [if_neg hn12, if_neg h64], show addL ls l = ls ++ [l] from if_neg (by rintro (h | h); exact hn12 h; exact h64 h)]
      refine TN.bigpush bkR es (l, y26.1, y26.2) ?_
      refine TN.fold (Book p (ls ++ [l])) (ent_pack (s28, es ++ [(l, y26.1, y26.2)]) ⟨by simp [he], ⟨by simp; omega, fun x hx => by rcases List.mem_append.1 hx with h | h; exact hok.right x h; rw [List.mem_singleton.1 h]; exact h12, fun x hx => by rcases List.mem_append.1 hx with h | h; exact hok.small x h; rw [List.mem_singleton.1 h]; exact hl⟩, by simp [hn, hs28]⟩) ?_
      refine TN_rets tys_of () (.inl rfl) rfl (rs := [.tmp 4, .tmp 5]) rfl (vs := [_, _]) ⟨rfl, rfl, trivial⟩ (by rw [show ls.length + 1 = s28.n by omega]; rfl) trivial

def bookGet (ls : List Lay) (id : Int) : Lay × Int := if 1 ≤ id ∧ id ≤ ls.length then (ls.getD (id - 1).toNat lay0, 0) else (lay0, 6)

theorem bookGet_fn (S : Hp) (p : Nat) (ls : List Lay) (id : Int) :
    FNs S prog F_layout_Book_Get #[.pointer (some ⟨p, 0, none⟩), iv id] [Book p ls] (fun r : Slc × Slc => .tuple #[layV (bookGet ls id).1 r.1 r.2, iv (bookGet ls id).2]) (fun _ => True) (fun r => Book p ls :: LayR (bookGet ls id).1 r.1 r.2) := by
  refine FNs_of_body func_layout_Book_Get rfl ntmps_layout_Book_Get rfl ?_
  intro R w0
  refine TN.unpack fun ⟨s, es⟩ hx => ?_
  obtain ⟨he, hok, hn⟩ := hx
  dsimp only at he hn ⊢
  have hls : ls.length = s.n := by rw [← he, List.length_map, hn]
  refine TC_seq ?_
  refine TC_region ?_
  refine TO_puresN 0 tys_of rfl (TO_cons (TOp_alloc tys_of rfl rfl rfl fun b4 => ?_))
  refine TO_puresN 1 tys_of rfl (TO_nil ?_)
  refine TC_seq ?_
  refine TC_block ?_
  refine TC_seq ?_
  refine TC_region ?_
  refine TO_puresN 3 tys_of rfl (TO_nil ?_)
  refine TC_false rfl ?_
  refine TC_seq ?_
  refine TC_region ?_
  refine TO_puresN 1 tys_of rfl (TO_cons (TOp_bool tys_of rfl rfl (fun h12 => ?_) (fun h12 => ?_)))
  · -- t12 True: (Op.binOp BinOp.lss 3 (Operand.tmp 11) (Operand.const (Value.int IntKind.i64 1)) 3)
    try simp only [decide_eq_true_eq, decide_eq_false_iff_not, beq_iff_eq, bne_iff_ne, beq_eq_false_iff_ne, bne_eq_false_iff_eq, ne_eq, Bool.not_eq_true', Bool.not_eq_false', Decidable.not_not] at h12
    refine TO_puresN 10 tys_of rfl (TO_nil ?_)
    refine TC_true rfl ?_
    refine TC_seq ?_
    refine TC_region ?_
    refine TO_puresN 1 tys_of rfl (TO_cons (TOp_store tys_of rfl rfl rfl rfl rfl rfl rfl rfl ?_))
    refine TN.same b4 (l' := layC lay0 nilS nilS) rfl ?_
    refine TO_puresN 1 tys_of rfl (TO_nil ?_)
    refine TC_ret ?_
    repeat (first | refine TN_thenr ?_ | refine TN_blockr ?_)
    rw [show bookGet ls id = (lay0, 6) from if_neg (by omega)]
    refine TN.fold (Book p ls) (ent_pack (s, es) ⟨he, hok, hn⟩) ?_
    refine TN.nilrow T_int 1 (xs := lay0.refs.map iv) rfl ?_
    refine TN.nilrow T_int 1 (xs := lay0.recRefs.map iv) rfl ?_
    refine TN_rets tys_of (nilS, nilS) (.inl rfl) rfl (rs := [.cell 4 111, .tmp 5]) rfl (vs := [_, _]) ⟨⟨_, _, _, _, _, _, rfl, rfl, lies_find, rfl⟩, rfl, trivial⟩ rfl trivial
  · -- t12 False: (Op.binOp BinOp.lss 3 (Operand.tmp 11) (Operand.const (Value.int IntKind.i64 1)) 3)
    try simp only [decide_eq_true_eq, decide_eq_false_iff_not, beq_iff_eq, bne_iff_ne, beq_eq_false_iff_ne, bne_eq_false_iff_eq, ne_eq, Bool.not_eq_true', Bool.not_eq_false', Decidable.not_not] at h12
    refine TO_puresN 5 tys_of rfl (TO_cons (TOp_exact rfl (Ex_load tys_of rfl rfl rfl lies_find rfl) ?_))
    refine TO_puresN 1 tys_of rfl (TO_cons (TOp_bool tys_of rfl rfl (fun h20 => ?_) (fun h20 => ?_)))
    · -- t20 True: (Op.binOp BinOp.gtr 3 (Operand.tmp 14) (Operand.tmp 19) 3)
      try simp only [decide_eq_true_eq, decide_eq_false_iff_not, beq_iff_eq, bne_iff_ne, beq_eq_false_iff_ne, bne_eq_false_iff_eq, ne_eq, Bool.not_eq_true', Bool.not_eq_false', Decidable.not_not] at h20
      refine TO_puresN 2 tys_of rfl (TO_nil ?_)
      refine TC_true rfl ?_
      refine TC_seq ?_
      refine TC_region ?_
      refine TO_puresN 1 tys_of rfl (TO_cons (TOp_store tys_of rfl rfl rfl rfl rfl rfl rfl rfl ?_))
      refine TN.same b4 (l' := layC lay0 nilS nilS) rfl ?_
      refine TO_puresN 1 tys_of rfl (TO_nil ?_)
      refine TC_ret ?_
      repeat (first | refine TN_thenr ?_ | refine TN_blockr ?_)
      rw [show bookGet ls id = (lay0, 6) from if_neg (by omega)]
      refine TN.fold (Book p ls) (ent_pack (s, es) ⟨he, hok, hn⟩) ?_
      refine TN.nilrow T_int 1 (xs := lay0.refs.map iv) rfl ?_
      refine TN.nilrow T_int 1 (xs := lay0.recRefs.map iv) rfl ?_
      refine TN_rets tys_of (nilS, nilS) (.inl rfl) rfl (rs := [.cell 4 111, .tmp 5]) rfl (vs := [_, _]) ⟨⟨_, _, _, _, _, _, rfl, rfl, lies_find, rfl⟩, rfl, trivial⟩ rfl trivial
    · -- t20 False: (Op.binOp BinOp.gtr 3 (Operand.tmp 14) (Operand.tmp 19) 3)
      try simp only [decide_eq_true_eq, decide_eq_false_iff_not, beq_iff_eq, bne_iff_ne, beq_eq_false_iff_ne, bne_eq_false_iff_eq, ne_eq, Bool.not_eq_true', Bool.not_eq_false', Decidable.not_not] at h20
      refine TO_puresN 2 tys_of rfl (TO_nil ?_)
      refine TC_false rfl ?_
      refine TC_skip ?_
      try refine TN_blockn ?_
      refine TC_seq ?_
      refine TC_region ?_
      refine TO_puresN 3 tys_of rfl (TO_cons (TOp_exact rfl (Ex_load tys_of rfl rfl rfl lies_find rfl) ?_))
      refine TO_puresN 2 tys_of rfl ?_
      have hle := hok.len
      obtain ⟨k, rfl⟩ : ∃ k : Nat, id = (k : Int) + 1 := ⟨(id - 1).toNat, by omega⟩
      have hk : k < es.length := by omega
      rw [wrap_i64 (by omega) (by omega), show ((k : Int) + 1 - 1) = (k : Int) by omega]
      refine TN.rowopen s (by omega) fun g pre sp ha hrow => ?_
      refine TO_puresN 0 tys_of rfl (TO_cons (TOp_exact rfl (Ex_indexS (sz := 4) tys_of rfl rfl (by assumption) rfl rfl rfl (by omega)) ?_))
      refine TO_puresN 0 tys_of rfl (TO_cons (TOp_exact rfl (Ex_load tys_of rfl rfl rfl lies_find (loadL_row (loadL_flat rfl bkC_len hk))) ?_))
      refine TN.rowclose hrow ?_
      refine TN.bigopen bkR es k hk ?_
      have hmem : es[k].1 ∈ ls := by rw [← he]; exact List.mem_map_of_mem (List.getElem_mem hk)
      have hget : bookGet ls ((k : Int) + 1) = (es[k].1, 0) := by unfold bookGet; rw [if_pos (by omega), show ((k : Int) + 1 - 1).toNat = k by omega, ← he]; simp [List.getD, hk]
      refine TO_puresN 0 tys_of rfl (TO_cons (TOp_calls rfl rfl cl_layout_own (own_fn _ es[k].1 (hok.small _ hmem) es[k].2.1 es[k].2.2) fun y31 hy31 => ?_))
      refine TN.bigclose bkR es k hk es[k] ?_
      rw [List.set_getElem_self]
      refine TO_puresN 0 tys_of rfl (TO_cons (TOp_store tys_of rfl rfl rfl rfl rfl rfl rfl rfl ?_))
      refine TN.same b4 (l' := layC es[k].1 y31.1 y31.2) rfl ?_
      refine TO_puresN 1 tys_of rfl (TO_nil ?_)
      refine TC_ret ?_
      repeat (first | refine TN_thenr ?_ | refine TN_blockr ?_)
      rw [hget]
      refine TN.fold (Book p ls) (ent_pack (s, es) ⟨he, hok, hn⟩) ?_
      refine TN_rets tys_of y31 (.inl rfl) rfl (rs := [.cell 4 111, .tmp 5]) rfl (vs := [_, _]) ⟨⟨_, _, _, _, _, _, rfl, rfl, lies_find, rfl⟩, rfl, trivial⟩ rfl trivial
end Go.Sl.Tz

/-
  The contracts of package image. By mk.py out of spec/SlImage.spec.
-/
namespace Go.Sl.Tz
open Go Go.Proofs Go.Sl
set_option maxRecDepth 100000

/-- What is told of what is packed. -/
theorem TN.packed {Γ : Ctx} {K : Act → World → Prop} {E : Env} {M R : List HProp} (A : HProp) {ι : Sort _} {φ : ι → Prop} {L : ι → List HProp} (hA : A = Pack φ L) [ht : Take1 A M R] (h : ∀ x, φ x → TN Γ K E (sep M)) : TN Γ K E (sep M) := by
  intro a w ha hw
  have hs := hw.1
  rw [ht.out, star_assoc, hA] at hs
  unfold Pack at hs
  obtain ⟨x, hs⟩ := Sat.ex.1 hs
  rw [star_assoc] at hs
  exact h x (Sat.lift.1 hs).1 a w ha hw

def Img (p st bk : Nat) : HProp := cel p T_image_Images [.pointer (some ⟨st, 0, none⟩), .pointer (some ⟨bk, 0, none⟩)]
theorem imageNew_fn (S : Hp) (st bk : Nat) : FNs S prog F_image_New #[.pointer (some ⟨st, 0, none⟩), .pointer (some ⟨bk, 0, none⟩)] [] (fun p : Nat => .tuple #[.pointer (some ⟨p, 0, none⟩), iv 0]) (fun _ => True) (fun p => [Img p st bk]) := by
  refine FNs_of_body func_image_New rfl ntmps_image_New rfl ?_
  intro R w0
  refine TC_seq ?_
  refine TC_region ?_
  refine TO_puresN 2 tys_of rfl (TO_nil ?_)
  refine TC_seq ?_
  refine TC_seq ?_
  refine TC_region ?_
  refine TO_puresN 6 tys_of rfl (TO_nil ?_)
  refine TC_false rfl ?_
  refine TC_skip ?_
  refine TC_seq ?_
  refine TC_region ?_
  refine TO_puresN 3 tys_of rfl (TO_cons (TOp_box rfl rfl rfl fun b15 => ?_))
  refine TN.same b15 (l' := [.pointer (some ⟨st, 0, none⟩), .pointer (some ⟨bk, 0, none⟩)]) rfl ?_
  rw [show cel b15 T_image_Images [.pointer (some ⟨st, 0, none⟩), .pointer (some ⟨bk, 0, none⟩)] = Img b15 st bk from rfl]
  refine TO_puresN 2 tys_of rfl (TO_nil ?_)
  refine TC_ret ?_
  repeat (first | refine TN_thenr ?_ | refine TN_blockr ?_)
  refine TN_rets tys_of b15 (.inl rfl) rfl (rs := [.tmp 4, .tmp 5]) rfl (vs := [_, _]) ⟨rfl, rfl, trivial⟩ rfl trivial

def imgSize (ls : List Lay) (h : HdrM) : Lay × Int × Int :=
  if (bookGet ls h.layout).2 = 0 then ((bookGet ls h.layout).1, (sizeR (bookGet ls h.layout).1 h.count).1, (sizeR (bookGet ls h.layout).1 h.count).2) else ((bookGet ls h.layout).1, 0, (bookGet ls h.layout).2)
theorem bookGet_b {ls : List Lay} (h : BookOK ls) (id : Int) : LayB (bookGet ls id).1 := by
  unfold bookGet
  split
  · rename_i hc
    have hlt : (id - 1).toNat < ls.length := by omega
    simp only [List.getD, List.getElem?_eq_getElem hlt, Option.getD_some]
    exact h.small _ (List.getElem_mem hlt)
  · exact ⟨by decide, by decide⟩

theorem imgSize_fn (S : Hp) (p st bk : Nat) (ls : List Lay) (h : HdrM) : FNs S prog F_image_Images_size #[.pointer (some ⟨p, 0, none⟩), hdrV h] [Img p st bk, Book bk ls]
    (fun r : Slc × Slc => .tuple #[layV (imgSize ls h).1 r.1 r.2, iv (imgSize ls h).2.1, iv (imgSize ls h).2.2]) (fun _ => True) (fun r => Img p st bk :: Book bk ls :: LayR (imgSize ls h).1 r.1 r.2) := by
  refine FNs_of_body func_image_Images_size rfl ntmps_image_Images_size rfl ?_
  intro R w0
  refine TN.packed (Book bk ls) rfl fun x hx => ?_
  have hok := hx.2.1
  unfold Img
  refine TC_seq ?_
  refine TC_region ?_
  refine TO_puresN 0 tys_of rfl (TO_cons (TOp_box rfl rfl rfl fun b3 => ?_))
  refine TN.same b3 (l' := hdrC h) rfl ?_
  refine TO_puresN 0 tys_of rfl (TO_cons (TOp_alloc tys_of rfl rfl rfl fun b4 => ?_))
  refine TN.same b4 (l' := layC lay0 nilS nilS) rfl ?_
  refine TO_puresN 2 tys_of rfl (TO_nil ?_)
  refine TC_seq ?_
  refine TC_draw (by kernel_rfl) (sep [cel p T_image_Images [.pointer (some ⟨st, 0, none⟩), .pointer (some ⟨bk, 0, none⟩)], cel b3 T_api_Header (hdrC h)]) 13 ?_
  refine TA_reads (fuel := 7) [0, 1, 2, 3, 4, 5] rfl (fun _ _ _ h => h) (by decide +kernel) (by decide +kernel) (by decide +kernel) (by decide +kernel) ent_takes ?_
  refine TR_puresN 3 tys_of rfl (TR_exact rfl (Ex_load tys_of rfl rfl rfl keep_find rfl) ?_)
  refine TR_puresN 1 tys_of rfl (TR_exact rfl (Ex_load tys_of rfl rfl rfl keep_find rfl) ?_)
  refine TR_puresN 0 tys_of rfl (TR_done ?_)
  refine TA_have (fuel' := 2) (listed' := #[true, true, true, true, true, true, true, true, true, true, true, false, false]) (fun y : (Slc × Slc) × Nat => True) (fun y : (Slc × Slc) × Nat => ⟨34, [], [(3, .pointer (some ⟨b3, 0, none⟩)), (4, .pointer (some ⟨b4, 0, none⟩)), (18, layV (bookGet ls h.layout).1 y.1.1 y.1.2), (19, iv (bookGet ls h.layout).2), (7, .pointer (some ⟨y.2, 0, none⟩))]⟩) (fun y : (Slc × Slc) × Nat => [cel p T_image_Images [.pointer (some ⟨st, 0, none⟩), .pointer (some ⟨bk, 0, none⟩)], cel b3 T_api_Header (hdrC h), cel b4 T_api_Layout (layC lay0 nilS nilS), cel y.2 T_api_Layout (layC lay0 nilS nilS), Book bk ls, Row y.1.1 T_int 1 ((bookGet ls h.layout).1.refs.map iv), Row y.1.2 T_int 1 ((bookGet ls h.layout).1.recRefs.map iv)]) ?_ ?_
  rotate_left
  · intro tail
    refine TA_two (fuel := 6) 6 10 (by decide +kernel) ?_ ?_
    · refine TOp_calls rfl rfl cl_layout_Book_Get (bookGet_fn _ bk ls h.layout) fun y17 hy17 => ?_
      refine TB_low ent_takes ?_
      refine TA_frees (fuel := 3) [7, 8, 9] rfl (fun _ _ _ h => h) (by decide +kernel) ?_
      refine TR_puresN 3 tys_of rfl (TR_done ?_)
      refine TA_one (fuel := 2) 10 (by decide +kernel) (TOp_alloc tys_of rfl rfl rfl fun b7 => ?_)
      refine TN.same b7 (l' := layC lay0 nilS nilS) rfl ?_
      refine TB_low ent_takes ?_
      exact TA_use (tail (y17, b7) trivial) (by decide +kernel) (Env.le_of_knows (by repeat first | exact trivial | refine ⟨rfl, ?_⟩))
    · refine TOp_alloc tys_of rfl rfl rfl fun b7 => ?_
      refine TN.same b7 (l' := layC lay0 nilS nilS) rfl ?_
      refine TB_low ent_takes ?_
      refine TA_one (fuel := 5) 6 (by decide +kernel) (TOp_calls rfl rfl cl_layout_Book_Get (bookGet_fn _ bk ls h.layout) fun y17 hy17 => ?_)
      refine TB_low ent_takes ?_
      refine TA_frees (fuel := 2) [7, 8, 9] rfl (fun _ _ _ h => h) (by decide +kernel) ?_
      refine TR_puresN 3 tys_of rfl (TR_done ?_)
      exact TA_use (tail (y17, b7) trivial) (by decide +kernel) (Env.le_of_knows (by repeat first | exact trivial | refine ⟨rfl, ?_⟩))
  rintro ⟨y17, b7⟩ -
  dsimp only
  refine TA_one (fuel := 1) 11 (by decide +kernel) (TOp_store tys_of rfl rfl rfl rfl rfl rfl rfl rfl ?_)
  refine TN.same b7 (l' := layC (bookGet ls h.layout).1 y17.1 y17.2) rfl ?_
  refine TB_low ent_takes ?_
  refine TA_frees (fuel := 0) [12] rfl (fun _ _ _ h => h) (by decide +kernel) ?_
  refine TR_puresN 1 tys_of rfl (TR_done ?_)
  refine TA_nil ?_ (by decide +kernel)
  refine TC_seq ?_
  refine TC_seq ?_
  refine TC_region ?_
  refine TO_puresN 1 tys_of rfl (TO_cons (TOp_bool tys_of rfl rfl (fun h21 => ?_) (fun h21 => ?_)))
  · -- t21 True: (Op.binOp BinOp.neq 40 (Operand.tmp 20) (Operand.const (Value.int IntKind.i64 0)) 40)
    try simp only [decide_eq_true_eq, decide_eq_false_iff_not, beq_iff_eq, bne_iff_ne, beq_eq_false_iff_ne, bne_eq_false_iff_eq, ne_eq, Bool.not_eq_true', Bool.not_eq_false', Decidable.not_not] at h21
    refine TO_puresN 0 tys_of rfl (TO_nil ?_)
    refine TC_true rfl ?_
    refine TC_seq ?_
    refine TC_region ?_
    refine TO_puresN 0 tys_of rfl (TO_cons (TOp_exact rfl (Ex_load tys_of rfl rfl rfl lies_find rfl) ?_))
    refine TO_puresN 1 tys_of rfl (TO_cons (TOp_store tys_of rfl rfl rfl rfl rfl rfl rfl rfl ?_))
    refine TN.same b4 (l' := layC (bookGet ls h.layout).1 y17.1 y17.2) rfl ?_
    refine TO_puresN 2 tys_of rfl (TO_nil ?_)
    refine TC_ret ?_
    repeat (first | refine TN_thenr ?_ | refine TN_blockr ?_)
    rw [show imgSize ls h = ((bookGet ls h.layout).1, 0, (bookGet ls h.layout).2) from if_neg h21]
    refine TN_rets tys_of (y17.1, y17.2) (.inl rfl) rfl (rs := [.cell 4 111, .tmp 5, .tmp 6]) rfl (vs := [_, _, _]) ⟨⟨_, _, _, _, _, _, rfl, rfl, lies_find, rfl⟩, rfl, rfl, trivial⟩ rfl trivial
  · -- t21 False: (Op.binOp BinOp.neq 40 (Operand.tmp 20) (Operand.const (Value.int IntKind.i64 0)) 40)
    try simp only [decide_eq_true_eq, decide_eq_false_iff_not, beq_iff_eq, bne_iff_ne, beq_eq_false_iff_ne, bne_eq_false_iff_eq, ne_eq, Bool.not_eq_true', Bool.not_eq_false', Decidable.not_not] at h21
    refine TO_puresN 0 tys_of rfl (TO_nil ?_)
    refine TC_false rfl ?_
    refine TC_skip ?_
    refine TC_seq ?_
    refine TC_region ?_
    refine TO_puresN 0 tys_of rfl (TO_cons (TOp_exact rfl (Ex_load tys_of rfl rfl rfl lies_find rfl) ?_))
    refine TO_puresN 1 tys_of rfl (TO_cons (TOp_exact rfl (Ex_load tys_of rfl rfl rfl lies_find rfl) ?_))
    refine TO_puresN 0 tys_of rfl (TO_cons (TOp_calls rfl rfl cl_layout_Size (size_fn _ (bookGet ls h.layout).1 (bookGet_b hok _) y17.1 y17.2 h.count) fun y28 hy28 => ?_))
    refine TO_puresN 5 tys_of rfl (TO_nil ?_)
    refine TC_seq ?_
    refine TC_region ?_
    refine TO_puresN 0 tys_of rfl (TO_cons (TOp_exact rfl (Ex_load tys_of rfl rfl rfl lies_find rfl) ?_))
    refine TO_puresN 2 tys_of rfl (TO_cons (TOp_store tys_of rfl rfl rfl rfl rfl rfl rfl rfl ?_))
    refine TN.same b4 (l' := layC (bookGet ls h.layout).1 y17.1 y17.2) rfl ?_
    refine TO_puresN 2 tys_of rfl (TO_nil ?_)
    refine TC_ret ?_
    repeat (first | refine TN_thenr ?_ | refine TN_blockr ?_)
    rw [show imgSize ls h = ((bookGet ls h.layout).1, (sizeR (bookGet ls h.layout).1 h.count).1, (sizeR (bookGet ls h.layout).1 h.count).2) from if_pos h21]
    refine TN_rets tys_of (y17.1, y17.2) (.inl rfl) rfl (rs := [.cell 4 111, .tmp 5, .tmp 6]) rfl (vs := [_, _, _]) ⟨⟨_, _, _, _, _, _, rfl, rfl, lies_find, rfl⟩, rfl, rfl, trivial⟩ rfl trivial

theorem sizeR_ok {l : Lay} {c : Int} (h : (sizeR l c).2 = 0) : ∃ m : Nat, (sizeR l c).1 = m ∧ m < 8192 := by
  unfold sizeR at *
  split at h
  · cases h
  · rename_i h1
    have hr : rightM l = true := by simpa using h1
    obtain ⟨a1, a2, a3, a4⟩ := rightM_le hr
    rw [if_neg h1]
    split at h
    · cases h
    · rename_i h2
      rw [if_neg h2]
      split at h
      · cases h
      · rename_i h3
        rw [if_neg h3]
        have := (mul_le_of (a := c) (b := l.record) (m := 1024) (n := 64) (by omega) (by omega) a3 a4).1
        exact ⟨(l.fixed + c * l.record).toNat, by dsimp only; omega, by omega⟩
theorem imgSize_ok {ls : List Lay} {h : HdrM} (he : (imgSize ls h).2.2 = 0) : ∃ m : Nat, (imgSize ls h).2.1 = m ∧ m < 8192 := by
  unfold imgSize at *
  split at he
  · rename_i h1
    rw [if_pos h1]
    exact sizeR_ok he
  · rename_i h1
    exact absurd he h1
theorem packR_lt : ∀ (l : List (Nat × Nat)) (xs : List Nat) (w : Nat), w < 2 ^ 64 → (packR l xs w).1 < 2 ^ 64
  | [], _, w, h => by simpa [packR] using h
  | _ :: _, [], w, h => by simpa [packR] using h
  | f :: r, x :: xs, w, h => by
    unfold packR
    split
    · decide
    · exact packR_lt r xs _ (putF_lt _ _ _)
theorem encR_lt (h : HdrM) : (encR h).1 < 2 ^ 64 := by
  unfold encR
  split
  · exact packR_lt _ _ _ (by decide)
  · decide
def zeroS (σ : StoreM) (addr : Int) : Nat → StoreM
  | 0 => σ
  | k + 1 => writeS (zeroS σ addr k) (addr + 1 + (k : Int)) 0
theorem copyR_zero {σ : StoreM} {a b n : Int} (h : copyR σ a b n = 0) : atR σ a n = 0 ∧ atR σ b n = 0 := by
  unfold copyR at h
  split at h
  · cases h
  · split at h
    · cases h
    · omega
def makeR (ls : List Lay) (σ : StoreM) (addr : Int) (h : HdrM) : Int × Int :=
  if ((encR h).2 : Int) ≠ 0 then (0, (encR h).2) else if (imgSize ls h).2.2 ≠ 0 then (0, (imgSize ls h).2.2)
  else if copyR σ addr addr ((imgSize ls h).2.1 + 1) ≠ 0 then (0, copyR σ addr addr ((imgSize ls h).2.1 + 1)) else ((imgSize ls h).2.1 + 1, 0)
def makeS (ls : List Lay) (σ : StoreM) (addr : Int) (h : HdrM) : StoreM :=
  if ((encR h).2 : Int) ≠ 0 then σ else if (imgSize ls h).2.2 ≠ 0 then σ
  else if copyR σ addr addr ((imgSize ls h).2.1 + 1) ≠ 0 then copyS σ addr addr ((imgSize ls h).2.1 + 1)
  else zeroS (writeS (copyS σ addr addr ((imgSize ls h).2.1 + 1)) addr (encR h).1) addr (imgSize ls h).2.1.toNat

theorem imgMake_fn (S : Hp) (p st bk : Nat) (ls : List Lay) (σ : StoreM) (addr : Int) (h : HdrM) : FNs S prog F_image_Images_Make #[.pointer (some ⟨p, 0, none⟩), iv addr, hdrV h] [Img p st bk, Book bk ls, Store st σ]
    (fun _ : Unit => .tuple #[iv (makeR ls σ addr h).1, iv (makeR ls σ addr h).2]) (fun _ => True) (fun _ => [Img p st bk, Book bk ls, Store st (makeS ls σ addr h)]) := by
  refine FNs_of_body func_image_Images_Make rfl ntmps_image_Images_Make rfl ?_
  intro R w0
  refine TN.packed (Store st σ) rfl fun x hx => ?_
  have hok := hx.1
  have hw2 := hok.wl2
  refine TC_seq ?_
  refine TC_region ?_
  refine TO_puresN 0 tys_of rfl (TO_cons (TOp_box rfl rfl rfl fun b5 => ?_))
  refine TN.same b5 (l' := hdrC h) rfl ?_
  refine TO_puresN 2 tys_of rfl (TO_nil ?_)
  refine TC_seq ?_
  refine TC_seq ?_
  refine TC_region ?_
  refine TO_puresN 2 tys_of rfl (TO_nil ?_)
  refine TC_false rfl ?_
  refine TC_skip ?_
  refine TC_seq ?_
  refine TC_region ?_
  refine TO_puresN 0 tys_of rfl (TO_cons (TOp_exact rfl (Ex_load tys_of rfl rfl rfl lies_find rfl) ?_))
  refine TO_puresN 0 tys_of rfl (TO_cons (TOp_calls rfl rfl cl_header_Encode (encode_fn _ h) fun y18 hy18 => ?_))
  refine TO_puresN 5 tys_of rfl (TO_nil ?_)
  refine TC_seq ?_
  refine TC_seq ?_
  refine TC_region ?_
  refine TO_puresN 1 tys_of rfl (TO_cons (TOp_bool tys_of rfl rfl (fun h22 => ?_) (fun h22 => ?_)))
  · -- t22 True: (Op.binOp BinOp.neq 40 (Operand.tmp 21) (Operand.const (Value.int IntKind.i64 0)) 40)
    try simp only [decide_eq_true_eq, decide_eq_false_iff_not, beq_iff_eq, bne_iff_ne, beq_eq_false_iff_ne, bne_eq_false_iff_eq, ne_eq, Bool.not_eq_true', Bool.not_eq_false', Decidable.not_not] at h22
    refine TO_puresN 0 tys_of rfl (TO_nil ?_)
    refine TC_true rfl ?_
    refine TC_seq ?_
    refine TC_region ?_
    refine TO_puresN 3 tys_of rfl (TO_nil ?_)
    refine TC_ret ?_
    repeat (first | refine TN_thenr ?_ | refine TN_blockr ?_)
    rw [show makeR ls σ addr h = (0, ((encR h).2 : Int)) from if_pos h22, show makeS ls σ addr h = σ from if_pos h22]
    refine TN_rets tys_of () (.inl rfl) rfl (rs := [.tmp 6, .tmp 7]) rfl (vs := [_, _]) ⟨rfl, rfl, trivial⟩ rfl trivial
  · -- t22 False: (Op.binOp BinOp.neq 40 (Operand.tmp 21) (Operand.const (Value.int IntKind.i64 0)) 40)
    try simp only [decide_eq_true_eq, decide_eq_false_iff_not, beq_iff_eq, bne_iff_ne, beq_eq_false_iff_ne, bne_eq_false_iff_eq, ne_eq, Bool.not_eq_true', Bool.not_eq_false', Decidable.not_not] at h22
    refine TO_puresN 0 tys_of rfl (TO_nil ?_)
    refine TC_false rfl ?_
    refine TC_skip ?_
    refine TC_seq ?_
    refine TC_region ?_
    refine TO_puresN 1 tys_of rfl (TO_cons (TOp_exact rfl (Ex_load tys_of rfl rfl rfl lies_find rfl) ?_))
    refine TO_puresN 0 tys_of rfl (TO_cons (TOp_calls rfl rfl cl_image_Images_size (imgSize_fn _ p st bk ls h) fun y27 hy27 => ?_))
    refine TO_puresN 4 tys_of rfl (TO_cons (TOp_alloc tys_of rfl rfl rfl fun b10 => ?_))
    refine TO_puresN 0 tys_of rfl (TO_cons (TOp_store tys_of rfl rfl rfl rfl rfl rfl rfl rfl ?_))
    refine TO_puresN 2 tys_of rfl (TO_nil ?_)
    refine TC_seq ?_
    refine TC_seq ?_
    refine TC_region ?_
    refine TO_puresN 1 tys_of rfl (TO_cons (TOp_bool tys_of rfl rfl (fun h32 => ?_) (fun h32 => ?_)))
    · -- t32 True: (Op.binOp BinOp.neq 40 (Operand.tmp 31) (Operand.const (Value.int IntKind.i64 0)) 40)
      try simp only [decide_eq_true_eq, decide_eq_false_iff_not, beq_iff_eq, bne_iff_ne, beq_eq_false_iff_ne, bne_eq_false_iff_eq, ne_eq, Bool.not_eq_true', Bool.not_eq_false', Decidable.not_not] at h32
      refine TO_puresN 0 tys_of rfl (TO_nil ?_)
      refine TC_true rfl ?_
      refine TC_seq ?_
      refine TC_region ?_
      refine TO_puresN 3 tys_of rfl (TO_nil ?_)
      refine TC_ret ?_
      repeat (first | refine TN_thenr ?_ | refine TN_blockr ?_)
      rw [show makeR ls σ addr h = (0, (imgSize ls h).2.2) by unfold makeR; rw [if_neg (by simpa using h22), if_pos h32], show makeS ls σ addr h = σ by unfold makeS; rw [if_neg (by simpa using h22), if_pos h32]]
      refine TN_rets tys_of () (.inl rfl) rfl (rs := [.tmp 6, .tmp 7]) rfl (vs := [_, _]) ⟨rfl, rfl, trivial⟩ rfl trivial
    · -- t32 False: (Op.binOp BinOp.neq 40 (Operand.tmp 31) (Operand.const (Value.int IntKind.i64 0)) 40)
      try simp only [decide_eq_true_eq, decide_eq_false_iff_not, beq_iff_eq, bne_iff_ne, beq_eq_false_iff_ne, bne_eq_false_iff_eq, ne_eq, Bool.not_eq_true', Bool.not_eq_false', Decidable.not_not] at h32
      obtain ⟨m, hm, hlt⟩ := imgSize_ok h32
      rw [hm]
      unfold Img
      refine TO_puresN 0 tys_of rfl (TO_nil ?_)
      refine TC_false rfl ?_
      refine TC_skip ?_
      refine TC_seq ?_
      refine TC_seq ?_
      refine TC_region ?_
      refine TO_puresN 3 tys_of rfl (TO_cons (TOp_exact rfl (Ex_load tys_of rfl rfl rfl lies_find rfl) ?_))
      refine TO_puresN 4 tys_of rfl ?_
      try rw [wrap_i64 (by omega) (by omega)]
      refine TO_puresN 0 tys_of rfl (TO_cons (TOp_calls rfl rfl cl_store_Store_Copy (copy_fn _ st σ addr addr ((m : Int) + 1)) fun y42 hy42 => ?_))
      skip
      refine TO_puresN 1 tys_of rfl (TO_nil ?_)
      refine TC_seq ?_
      refine TC_region ?_
      refine TO_puresN 1 tys_of rfl (TO_cons (TOp_bool tys_of rfl rfl (fun h44 => ?_) (fun h44 => ?_)))
      · -- t44 True: (Op.binOp BinOp.neq 40 (Operand.tmp 43) (Operand.const (Value.int IntKind.i64 0)) 40)
        try simp only [decide_eq_true_eq, decide_eq_false_iff_not, beq_iff_eq, bne_iff_ne, beq_eq_false_iff_ne, bne_eq_false_iff_eq, ne_eq, Bool.not_eq_true', Bool.not_eq_false', Decidable.not_not] at h44
        refine TO_puresN 0 tys_of rfl (TO_nil ?_)
        refine TC_true rfl ?_
        refine TC_seq ?_
        refine TC_region ?_
        refine TO_puresN 3 tys_of rfl (TO_nil ?_)
        refine TC_ret ?_
        repeat (first | refine TN_thenr ?_ | refine TN_blockr ?_)
        rw [show cel p T_image_Images [.pointer (some ⟨st, 0, none⟩), .pointer (some ⟨bk, 0, none⟩)] = Img p st bk from rfl]
        rw [show makeR ls σ addr h = (0, copyR σ addr addr ((m : Int) + 1)) by unfold makeR; rw [if_neg (by simpa using h22), if_neg (by simpa using h32), hm, if_pos h44], show makeS ls σ addr h = copyS σ addr addr ((m : Int) + 1) by unfold makeS; rw [if_neg (by simpa using h22), if_neg (by simpa using h32), hm, if_pos h44]]
        refine TN_rets tys_of () (.inl rfl) rfl (rs := [.tmp 6, .tmp 7]) rfl (vs := [_, _]) ⟨rfl, rfl, trivial⟩ rfl trivial
      · -- t44 False: (Op.binOp BinOp.neq 40 (Operand.tmp 43) (Operand.const (Value.int IntKind.i64 0)) 40)
        try simp only [decide_eq_true_eq, decide_eq_false_iff_not, beq_iff_eq, bne_iff_ne, beq_eq_false_iff_ne, bne_eq_false_iff_eq, ne_eq, Bool.not_eq_true', Bool.not_eq_false', Decidable.not_not] at h44
        have hat := (copyR_zero h44).1
        obtain ⟨a, m', rfl, hm', ham⟩ := at_zero hat
        refine TO_puresN 0 tys_of rfl (TO_nil ?_)
        refine TC_false rfl ?_
        refine TC_skip ?_
        refine TC_seq ?_
        refine TC_region ?_
        refine TO_puresN 3 tys_of rfl (TO_cons (TOp_exact rfl (Ex_load tys_of rfl rfl rfl lies_find rfl) ?_))
        refine TO_puresN 2 tys_of rfl (TO_cons (TOp_calls rfl rfl cl_store_Store_Write (write_fn _ st (copyS σ a a ((m : Int) + 1)) a (encR h).1 (encR_lt h)) fun y52 hy52 => ?_))
        refine TO_puresN 0 tys_of rfl (TO_nil ?_)
        refine TC_seq ?_
        refine TC_seq ?_
        refine TC_region ?_
        refine TO_puresN 2 tys_of rfl (TO_nil ?_)
        refine TC_block ?_
        -- live: t0 t1 t2 t5 t8 t9 t10 t11 t12 t14 t15 t16 t17 t18 t19 t20 t21 t22 t23 t24 t25 t26 t27 t28 t29 t30 t31 t32 t33 t34 t35 t36 t37 t38 t39 t40 t41 t42 t43 t44 t45 t46 t47 t48 t49 t50 t51 t53 t54 t67 t68
        rw [show Store st (writeS (copyS σ a a ((m : Int) + 1)) a (encR h).1) = Store st (zeroS (writeS (copyS σ a a ((m : Int) + 1)) a (encR h).1) a 0) from rfl]
        refine TC_loopP (fun k => k ≤ m) (fun k => ⟨69, [], [(0, .pointer (some ⟨p, 0, none⟩)), (1, iv a), (11, iv m), (53, iv m), (54, iv k)]⟩) (fun k => [cel p T_image_Images [.pointer (some ⟨st, 0, none⟩), .pointer (some ⟨bk, 0, none⟩)], Book bk ls, Store st (zeroS (writeS (copyS σ a a ((m : Int) + 1)) a (encR h).1) a k)]) (fun k => m - k) 0 (Nat.zero_le _) (Env.le_of_knows (by repeat first | exact trivial | refine ⟨rfl, ?_⟩)) ?_
        rintro k hk
        refine TC_seq ?_
        refine TC_region ?_
        refine TO_puresN 0 tys_of rfl (TO_cons (TOp_bool tys_of rfl rfl (fun h55 => ?_) (fun h55 => ?_)))
        · -- t55 True: (Op.binOp BinOp.lss 3 (Operand.tmp 54) (Operand.tmp 53) 3)
          try simp only [decide_eq_true_eq, decide_eq_false_iff_not, beq_iff_eq, bne_iff_ne, beq_eq_false_iff_ne, bne_eq_false_iff_eq, ne_eq, Bool.not_eq_true', Bool.not_eq_false', Decidable.not_not] at h55
          refine TO_puresN 0 tys_of rfl (TO_nil ?_)
          refine TC_seq ?_
          refine TC_true rfl ?_
          refine TC_skip ?_
          refine TC_seq ?_
          refine TC_block ?_
          refine TC_seq ?_
          refine TC_region ?_
          refine TO_puresN 2 tys_of rfl (TO_nil ?_)
          refine TC_region ?_
          refine TO_puresN 3 tys_of rfl (TO_cons (TOp_exact rfl (Ex_load tys_of rfl rfl rfl lies_find rfl) ?_))
          refine TO_puresN 2 tys_of rfl ?_
          try rw [wrap_i64 (by omega) (by omega)]
          refine TO_puresN 2 tys_of rfl ?_
          rw [wrap_i64 (by omega) (by omega)]
          refine TO_puresN 0 tys_of rfl (TO_cons (TOp_calls rfl rfl cl_store_Store_Write (write_fn _ st (zeroS (writeS (copyS σ a a ((m : Int) + 1)) a (encR h).1) a k) ((a : Int) + 1 + (k : Int)) 0 (by decide)) fun y65 hy65 => ?_))
          refine TO_puresN 0 tys_of rfl (TO_nil ?_)
          try refine TN_blockn ?_
          refine TC_region ?_
          refine TO_puresN 1 tys_of rfl ?_
          try rw [wrap_i64 (by omega) (by omega)]
          refine TO_puresN 1 tys_of rfl (TO_nil ?_)
          rw [show writeS (zeroS (writeS (copyS σ a a ((m : Int) + 1)) a (encR h).1) a k) ((a : Int) + 1 + (k : Int)) 0 = zeroS (writeS (copyS σ a a ((m : Int) + 1)) a (encR h).1) a (k + 1) from rfl]
          refine TN_againP (k + 1) (by omega) (by omega) (Env.le_of_knows (by repeat first | exact trivial | refine ⟨rfl, ?_⟩))
        · -- t55 False: (Op.binOp BinOp.lss 3 (Operand.tmp 54) (Operand.tmp 53) 3)
          try simp only [decide_eq_true_eq, decide_eq_false_iff_not, beq_iff_eq, bne_iff_ne, beq_eq_false_iff_ne, bne_eq_false_iff_eq, ne_eq, Bool.not_eq_true', Bool.not_eq_false', Decidable.not_not] at h55
          refine TO_puresN 0 tys_of rfl (TO_nil ?_)
          refine TC_seq ?_
          refine TC_false rfl ?_
          refine TC_exit ?_
          repeat refine TN_thenx ?_
          refine TN_exit ?_
          refine TC_seq ?_
          refine TC_region ?_
          refine TO_puresN 2 tys_of rfl ?_
          try rw [wrap_i64 (by omega) (by omega)]
          refine TO_puresN 2 tys_of rfl (TO_nil ?_)
          refine TC_ret ?_
          repeat (first | refine TN_thenr ?_ | refine TN_blockr ?_)
          obtain rfl : k = m := by omega
          rw [show cel p T_image_Images [.pointer (some ⟨st, 0, none⟩), .pointer (some ⟨bk, 0, none⟩)] = Img p st bk from rfl]
          rw [show makeR ls σ a h = ((k : Int) + 1, 0) by unfold makeR; rw [if_neg (by simpa using h22), if_neg (by simpa using h32), hm, if_neg (by simpa using h44)], show makeS ls σ a h = zeroS (writeS (copyS σ a a ((k : Int) + 1)) a (encR h).1) a k by unfold makeS; rw [if_neg (by simpa using h22), if_neg (by simpa using h32), hm, if_neg (by simpa using h44)]; rfl]
          refine TN_rets tys_of () (.inl rfl) rfl (rs := [.tmp 6, .tmp 7]) rfl (vs := [_, _]) ⟨rfl, rfl, trivial⟩ rfl trivial
end Go.Sl.Tz

/-
  Separation logic over the model's heap: maps.
-/
namespace Go.Sl
open Go

/-- The entries of a map tell these keys and values, in this order. -/
def Tells {κ : Type} (enc : κ → Value) (es : List MapEntry) (kv : List (κ × Value)) : Prop := es.map (fun e => (e.key, e.val)) = kv.map fun x => (enc x.1, x.2)
/-- A map. -/
def MapOf {κ : Type} (enc : κ → Value) (r : Nat) (kv : List (κ × Value)) : HProp := Pack (fun x : Array MapEntry × Nat => Tells enc x.1.toList kv) (fun x => [pt r (.map x.1 x.2)])

def findK {κ : Type} [DecidableEq κ] : List (κ × Value) → κ → Nat → Option (Nat × Value)
  | [], _, _ => none
  | x :: r, k, i => if x.1 = k then some (i, x.2) else findK r k (i + 1)
def lookK {κ : Type} [DecidableEq κ] (kv : List (κ × Value)) (k : κ) : Option Value := (findK kv k 0).map (·.2)
/-- A key more, or another value of one that is there. -/
def putK {κ : Type} [DecidableEq κ] (kv : List (κ × Value)) (k : κ) (v : Value) : List (κ × Value) := match findK kv k 0 with
  | some (i, _) => kv.modify i fun x => (x.1, v)
  | none => kv ++ [(k, v)]
def delK {κ : Type} [DecidableEq κ] (kv : List (κ × Value)) (k : κ) : List (κ × Value) := match findK kv k 0 with
  | some (i, _) => kv.eraseIdx i
  | none => kv

/-- What is told of the keys of a map type: their values; that they compare as they should. -/
structure KeyOK (P : Program) (kt : TypeId) {κ : Type} [DecidableEq κ] (enc : κ → Value) : Prop where
  find : ∀ (k : κ) (es : List MapEntry) (kv : List (κ × Value)) (w : World), Tells enc es kv → (Instr.findKey kt (enc k) es).run P w = .ok (findK kv k 0) w
  check : ∀ (b : Bool) (k : κ) (w : World), (Instr.checkKey b 10000 kt (enc k)).run P w = .ok () w
  bits : ∀ k : κ, Instr.sameBits 10000 (enc k) (enc k) = true

theorem findNow_int (kk : IntKind) (ik : IntKind) (k : Int) : ∀ (es : List MapEntry) (kv : List (Int × Value)) (n : Nat), Tells (fun x => Value.int ik x) es kv → Instr.findNow (.int kk) (.int ik k) es n = some (findK kv k n)
  | [], [], _, _ => rfl
  | e :: es, x :: kv, n, h => by
    simp only [Tells, List.map_cons, List.cons.injEq, Prod.mk.injEq] at h
    obtain ⟨⟨h1, h2⟩, h3⟩ := h
    unfold Instr.findNow findK
    rw [h1]
    simp only [Instr.sameNow, if_true]
    by_cases hk : x.1 = k
    · rw [show (k == x.1) = true by simp [hk]]; simp only [hk, if_true, h2]
    · rw [show (k == x.1) = false by simp; exact fun h => hk h.symm]; simp only [hk, if_false]
      exact findNow_int kk ik k es kv (n + 1) h3
  | [], x :: kv, _, h => by cases h
  | e :: es, [], _, h => by cases h
theorem keyOK_int {P : Program} {kt : TypeId} {y : Ty} {kk : IntKind} (hy : Ty.fits P kt y) (hu : y.ud = .int kk) (ik : IntKind) : KeyOK P kt (fun x : Int => Value.int ik x) where
  find := fun k es kv w h => by
    unfold Instr.findKey
    simp only [Sem.run_bind, hy.run_underlying, Result.andThen_ok, hu, findNow_int kk ik k es kv 0 h]
    rfl
  check := fun b k w => by
    show (Instr.checkKey b (9999 + 1) kt (.int ik k)).run P w = _
    unfold Instr.checkKey
    simp only [Sem.run_bind, hy.run_underlying, Result.andThen_ok, hu]
    rfl
  bits := fun k => by
    show Instr.sameBits 10000 (.int ik k) (.int ik k) = true
    simp [Instr.sameBits]

theorem MapOf.sat {κ : Type} {enc : κ → Value} {r : Nat} {kv : List (κ × Value)} {A : HProp} {w : World} (h : Sat w (star (MapOf enc r kv) A)) : ∃ es clock, Tells enc es.toList kv ∧ Sat w (star (pt r (.map es clock)) A) := by
  unfold MapOf Pack at h
  obtain ⟨x, h⟩ := Sat.ex.1 h
  rw [star_assoc] at h
  obtain ⟨hp, h⟩ := Sat.lift.1 h
  exact ⟨x.1, x.2, hp, by simpa [sep_one] using h⟩
theorem MapOf.ent {κ : Type} {enc : κ → Value} {r : Nat} {kv : List (κ × Value)} {es : Array MapEntry} {clock : Nat} (h : Tells enc es.toList kv) : Ent (pt r (.map es clock)) (MapOf enc r kv) := fun x hx =>
  ⟨(es, clock), (lift_star _ _ _).2 ⟨h, by show star (pt r (.map es clock)) emp x; rw [star_emp]; exact hx⟩⟩

/-- The map r is among L. -/
class TakeMap {κ : Type} (enc : κ → Value) (r : Nat) (L : List HProp) (kv : outParam (List (κ × Value))) (R : outParam (List HProp)) : Prop where
  out : sep L = star (MapOf enc r kv) (sep R)
instance TakeMap.here {κ : Type} {enc : κ → Value} {r : Nat} {kv : List (κ × Value)} {L : List HProp} : TakeMap enc r (MapOf enc r kv :: L) kv L := ⟨rfl⟩
instance (priority := low) TakeMap.there {κ : Type} {enc : κ → Value} {r : Nat} {kv : List (κ × Value)} {B : HProp} {L R : List HProp} [h : TakeMap enc r L kv R] : TakeMap enc r (B :: L) kv (B :: R) := ⟨by
  show star B (sep L) = star (MapOf enc r kv) (star B (sep R))
  rw [h.out, star_left_comm]⟩
instance TakeMap.left {κ : Type} {enc : κ → Value} {r : Nat} {kv : List (κ × Value)} {L M R : List HProp} [h : TakeMap enc r L kv R] : TakeMap enc r (L ++ M) kv (R ++ M) := ⟨by rw [sep_append, h.out, star_assoc, ← sep_append]⟩
instance (priority := low) TakeMap.right {κ : Type} {enc : κ → Value} {r : Nat} {kv : List (κ × Value)} {L M R : List HProp} [h : TakeMap enc r M kv R] : TakeMap enc r (L ++ M) kv (L ++ R) := ⟨by rw [sep_append, h.out, star_left_comm, ← sep_append]⟩

theorem findK_spec {κ : Type} [DecidableEq κ] {k : κ} : ∀ {kv : List (κ × Value)} {n i : Nat} {v : Value}, findK kv k n = some (i, v) → ∃ j, i = n + j ∧ kv[j]? = some (k, v)
  | [], _, _, _, h => by cases h
  | x :: r, n, i, v, h => by
    unfold findK at h
    split at h
    · rename_i hk
      cases h
      exact ⟨0, rfl, by rw [← hk]; rfl⟩
    · obtain ⟨j, h1, h2⟩ := findK_spec h
      exact ⟨j + 1, by omega, by simpa using h2⟩
theorem Tells.get {κ : Type} {enc : κ → Value} {es : List MapEntry} {kv : List (κ × Value)} (h : Tells enc es kv) {j : Nat} {x : κ × Value} (hx : kv[j]? = some x) : ∃ e, es[j]? = some e ∧ e.key = enc x.1 ∧ e.val = x.2 := by
  have h1 : (es.map fun e => (e.key, e.val))[j]? = some (enc x.1, x.2) := by rw [h, List.getElem?_map, hx]; rfl
  rw [List.getElem?_map] at h1
  cases he : es[j]? with
  | none => rw [he] at h1; cases h1
  | some e =>
    rw [he] at h1
    simp only [Option.map_some, Option.some.injEq, Prod.mk.injEq] at h1
    exact ⟨e, rfl, h1.1, h1.2⟩
theorem Tells.push {κ : Type} {enc : κ → Value} {es : List MapEntry} {kv : List (κ × Value)} (h : Tells enc es kv) (k : κ) (v : Value) (b : Nat) : Tells enc (es ++ [⟨enc k, v, b⟩]) (kv ++ [(k, v)]) := by
  unfold Tells at *
  simp [h]
theorem Tells.modify {κ : Type} {enc : κ → Value} {es : List MapEntry} {kv : List (κ × Value)} (h : Tells enc es kv) {j : Nat} {k : κ} {u : Value} (hx : kv[j]? = some (k, u)) (v : Value) :
    Tells enc (es.modify j fun e => { e with key := enc k, val := v }) (kv.modify j fun x => (x.1, v)) := by
  unfold Tells at *
  apply List.ext_getElem?
  intro n
  have hn : (es.map fun e => (e.key, e.val))[n]? = (kv.map fun x => (enc x.1, x.2))[n]? := by rw [h]
  simp only [List.getElem?_map, List.getElem?_modify] at hn ⊢
  by_cases hj : j = n
  · subst hj
    rw [hx] at hn ⊢
    cases he : es[j]? with
    | none => rw [he] at hn; cases hn
    | some e => simp
  · simp only [hj, if_false]
    simpa using hn

section
variable {Γ : Ctx} {K : Act → World → Prop} {E : Env} {T : Tys} {o : Oper} {L : List HProp} {ops : Array Oper} {i : Nat} {Q : Exit → Act → World → Prop}
/-- What a lookup yields. -/
def lookV (y : Ty) (ok : Bool) (v : Option Value) : Value := match ok with
  | true => .tuple #[v.getD y.zero, .bool v.isSome]
  | false => v.getD y.zero
theorem TOp_lookup {κ : Type} [DecidableEq κ] (hT : T.Of Γ.P) (ho : opAt ops E i = some o) {t : TypeId} {x u : Operand} {ok : Bool} (hop : o.op = .lookup t x u ok) {r : Nat} (hx : E.get x = some (.map (some r))) (enc : κ → Value) {k : κ} (hu : E.get u = some (enc k))
    {kt e : TypeId} {s1 s2 : Nat} {z : Value} (hy : T.get t = some ⟨.map kt e, s1, s2, z⟩) {ye : Ty} (he : T.get e = some ye) (hk : KeyOK Γ.P kt enc) {kv : List (κ × Value)} {R : List HProp} [ht : TakeMap enc r L kv R]
    (h : TN Γ K (E.put o.dst (lookV ye ok (lookK kv k))) (sep L)) : TOp Γ ops Q i K E (sep L) :=
  TOp_one ho (fun a w ha hw => by
    have hs := hw.1
    rw [ht.out, star_assoc] at hs
    obtain ⟨es, clock, htell, hs⟩ := MapOf.sat hs
    have hb := hs.pt
    refine ⟨w, .inl ?_, hw⟩
    unfold execOp
    rw [hop]
    have hobj : (getObj r).run Γ.P w = .ok (.map es clock) w := by simp [getObj, Sem.run, hb]
    have hf := hk.find k es.toList kv w htell
    have hc := hk.check es.isEmpty k w
    unfold lookK lookV
    cases hfk : findK kv k 0 with
    | none =>
      rw [hfk] at hf
      cases ok <;> simp [Instr.lookup, Env.get_eval ha hx, Env.get_eval ha hu, (hT.fits hy).run_underlying, hobj, hc, hf, (hT.fits he).run_zeroValue]
    | some q =>
      rw [hfk] at hf
      cases ok <;> simp [Instr.lookup, Env.get_eval ha hx, Env.get_eval ha hu, (hT.fits hy).run_underlying, hobj, hc, hf, (hT.fits he).run_zeroValue]) h
theorem TOp_makeMap (ho : opAt ops E i = some o) {t : TypeId} (hop : o.op = .makeMap t none) {κ : Type} (enc : κ → Value) (h : ∀ r, TN Γ K (E.put o.dst (.map (some r))) (sep (MapOf enc r [] :: L))) : TOp Γ ops Q i K E (sep L) :=
  TOp_new (V := fun r => .map (some r)) (ob := .map #[] 0) ho (fun a w ha hk => by
    unfold execOp
    rw [hop]
    simp [Instr.makeMap, newObj, Sem.run]) (fun r => (h r).pre (Ent.star (MapOf.ent rfl) (.refl _)))
theorem TOp_mapUpdate {κ : Type} [DecidableEq κ] (hT : T.Of Γ.P) (ho : opAt ops E i = some o) {t : TypeId} {x u q : Operand} (hop : o.op = .mapUpdate t x u q ∨ o.op = .insert t x u q) {r : Nat} (hx : E.get x = some (.map (some r))) (enc : κ → Value) {k : κ} (hu : E.get u = some (enc k)) {v : Value} (hq : E.get q = some v)
    {kt e : TypeId} {s1 s2 : Nat} {z : Value} (hy : T.get t = some ⟨.map kt e, s1, s2, z⟩) (hk : KeyOK Γ.P kt enc) {kv : List (κ × Value)} {R : List HProp} [ht : TakeMap enc r L kv R]
    (h : TN Γ K (E.put o.dst undef) (sep (MapOf enc r (putK kv k v) :: R))) : TOp Γ ops Q i K E (sep L) :=
  TOp_one ho (fun a w ha hw => by
    have hs := hw.1
    rw [ht.out, star_assoc] at hs
    obtain ⟨es, clock, htell, hs⟩ := MapOf.sat hs
    have hb := hs.pt
    have hobj : (getObj r).run Γ.P w = .ok (.map es clock) w := by simp [getObj, Sem.run, hb]
    have hf := hk.find k es.toList kv w htell
    have hc := hk.check false k w
    have fin : ∀ (es' : Array MapEntry) (clock' : Nat), Tells enc es'.toList (putK kv k v) → (execOp a.eval o).run Γ.P w = ((setObj r (.map es' clock')).run Γ.P w).andThen (fun _ w' => .ok .skip w') →
        ∃ w', ((execOp a.eval o).run Γ.P w = .ok (.value undef) w' ∨ (execOp a.eval o).run Γ.P w = .ok .skip w' ∧ undef = undef) ∧ Γ.ok w' (sep (MapOf enc r (putK kv k v) :: R)) := by
      intro es' clock' ht' hrun
      have hset : (setObj r (.map es' clock')).run Γ.P w = .ok () { w with heap := w.heap.setIfInBounds r (.map es' clock') } := by simp [setObj, Sem.run, hb]
      refine ⟨{ w with heap := w.heap.setIfInBounds r (.map es' clock') }, .inr ⟨by rw [hrun, hset]; rfl, rfl⟩, ?_, hw.2.os, hw.2.output, ?_⟩
      · show Sat _ (star (star (MapOf enc r (putK kv k v)) (sep R)) _)
        rw [star_assoc]
        have hlt := (Array.getElem?_eq_some_iff.1 hb).1
        refine (hs.set (o' := .map es' clock') (by simp [hlt]) (fun n hn => by simp [Array.getElem?_setIfInBounds, Ne.symm hn])).mono (Ent.star (MapOf.ent ht') (.refl _))
      · show Γ.w0.heap.size ≤ (w.heap.setIfInBounds r (.map es' clock')).size
        rw [Array.size_setIfInBounds]; exact hw.2.size
    cases hfk : findK kv k 0 with
    | none =>
      rw [hfk] at hf
      refine fin (es.push ⟨enc k, v, clock⟩) (clock + 1) ?_ ?_
      · rw [Array.toList_push, show putK kv k v = kv ++ [(k, v)] by unfold putK; rw [hfk]]
        exact htell.push k v clock
      · unfold execOp
        rcases hop with hop | hop <;> rw [hop] <;>
        simp [Instr.mapUpdate, Env.get_eval ha hx, Env.get_eval ha hu, Env.get_eval ha hq, (hT.fits hy).run_underlying, hobj, hc, hf]
    | some p =>
      obtain ⟨j, u'⟩ := p
      rw [hfk] at hf
      obtain ⟨j', hj', hj⟩ := findK_spec hfk
      have hjj : j' = j := by omega
      subst hjj
      obtain ⟨e0, he1, he2, he3⟩ := htell.get hj
      have hes : es[j']? = some e0 := by simpa using he1
      refine fin (es.modify j' fun e => { e with key := enc k, val := v }) clock ?_ ?_
      · rw [Array.toList_modify, show putK kv k v = kv.modify j' fun x => (x.1, v) by unfold putK; rw [hfk]]
        exact htell.modify hj v
      · unfold execOp
        have hst : (Instr.keyThatStays (enc k) (enc k)).run Γ.P w = .ok (enc k) w := by unfold Instr.keyThatStays; rw [hk.bits k]; rfl
        rcases hop with hop | hop <;> rw [hop] <;>
        simp [Instr.mapUpdate, Env.get_eval ha hx, Env.get_eval ha hu, Env.get_eval ha hq, (hT.fits hy).run_underlying, hobj, hc, hf, hes, he2, hst]) h
theorem Tells.len {κ : Type} {enc : κ → Value} {es : List MapEntry} {kv : List (κ × Value)} (h : Tells enc es kv) : es.length = kv.length := by
  have := congrArg List.length h
  simpa using this
theorem TOp_maplen {κ : Type} (hT : T.Of Γ.P) (ho : opAt ops E i = some o) {c : Call} (hop : o.op = .call c) (hcl : c.callee = .builtin .len) {t : TypeId} (hty : c.argTypes = #[t]) {r : Nat} (enc : κ → Value)
    (hargs : getAll E c.args.toList = some [.map (some r)]) {kt e : TypeId} {s1 s2 : Nat} {z : Value} (hy : T.get t = some ⟨.map kt e, s1, s2, z⟩) {kv : List (κ × Value)} {R : List HProp} [ht : TakeMap enc r L kv R]
    (h : TN Γ K (E.put o.dst (.int .i64 kv.length)) (sep L)) : TOp Γ ops Q i K E (sep L) :=
  TOp_one ho (fun a w ha hw => by
    have hs := hw.1
    rw [ht.out, star_assoc] at hs
    obtain ⟨es, clock, htell, hs⟩ := MapOf.sat hs
    have hb := hs.pt
    have hobj : (getObj r).run Γ.P w = .ok (.map es clock) w := by simp [getObj, Sem.run, hb]
    obtain ⟨ty, hex⟩ := exec_bltn (P := Γ.P) (w := w) hop hcl rfl ha hargs
    rw [hex, hty]
    refine ⟨w, .inl ?_, hw⟩
    show ((Builtin.len_ #[t] ty #[.map (some r)]).run Γ.P w).andThen _ = _
    have hl := htell.len
    rw [Array.length_toList] at hl
    simp [Builtin.len_, (hT.fits hy).run_underlying, hobj, goInt, hl]) h
end
end Go.Sl

/-
  The contracts of package tree. By mk.py out of spec/SlTree.spec.
-/
namespace Go.Sl.Tz
open Go Go.Proofs Go.Sl
set_option maxRecDepth 100000

theorem kI : KeyOK prog 3 iv := keyOK_int (Tys.Of.fits tys_of (t := 3) (y := y3) rfl) (kk := .i64) rfl .i64
structure TreeM where
  kv : List (Int × Value)
  last : Int
structure TreeOK (τ : TreeM) : Prop where
  l0 : 0 ≤ τ.last
  ints : ∀ x ∈ τ.kv, ∃ n : Int, x.2 = iv n
  len : τ.kv.length ≤ 64
def Tree (p : Nat) (τ : TreeM) : HProp := Pack (fun _ : Nat => TreeOK τ) (fun r => [cel p T_tree_Tree [.map (some r), iv τ.last], MapOf iv r τ.kv])
theorem treeNew_fn (S : Hp) : FNs S prog F_tree_New #[] [] (fun p : Nat => .pointer (some ⟨p, 0, none⟩)) (fun _ => True) (fun p => [Tree p ⟨[], 0⟩]) := by
  refine FNs_of_body func_tree_New rfl ntmps_tree_New rfl ?_
  intro R w0
  refine TC_seq ?_
  refine TC_region ?_
  refine TO_puresN 1 tys_of rfl (TO_nil ?_)
  refine TC_seq ?_
  refine TC_region ?_
  refine TO_puresN 0 tys_of rfl (TO_cons (TOp_makeMap rfl rfl iv fun r1 => ?_))
  refine TO_puresN 1 tys_of rfl (TO_cons (TOp_box rfl rfl rfl fun b3 => ?_))
  refine TN.same b3 (l' := [.map (some r1), iv 0]) rfl ?_
  refine TO_puresN 1 tys_of rfl (TO_nil ?_)
  refine TC_ret ?_
  repeat (first | refine TN_thenr ?_ | refine TN_blockr ?_)
  refine TN.fold (Tree b3 ⟨[], 0⟩) (ent_pack r1 ⟨Int.le_refl _, by simp, by simp⟩) ?_
  refine TN_rets tys_of b3 (.inl rfl) rfl (rs := [.tmp 0]) rfl (vs := [_]) ⟨rfl, trivial⟩ rfl trivial
def liveT (τ : TreeM) (id : Int) : Bool := (lookK τ.kv id).isSome
theorem live_fn (S : Hp) (p : Nat) (τ : TreeM) (id : Int) : FNs S prog F_tree_Tree_Live #[.pointer (some ⟨p, 0, none⟩), iv id] [Tree p τ] (fun _ : Unit => .bool (liveT τ id)) (fun _ => True) (fun _ => [Tree p τ]) := by
  refine FNs_of_body func_tree_Tree_Live rfl ntmps_tree_Tree_Live rfl ?_
  intro R w0
  refine TN.unpack fun r hok => ?_
  refine TC_seq ?_
  refine TC_region ?_
  refine TO_puresN 1 tys_of rfl (TO_nil ?_)
  refine TC_seq ?_
  refine TC_seq ?_
  refine TC_region ?_
  refine TO_puresN 2 tys_of rfl (TO_nil ?_)
  refine TC_false rfl ?_
  refine TC_skip ?_
  refine TC_seq ?_
  refine TC_region ?_
  refine TO_puresN 3 tys_of rfl (TO_cons (TOp_exact rfl (Ex_load tys_of rfl rfl rfl lies_find rfl) ?_))
  refine TO_puresN 1 tys_of rfl (TO_cons (TOp_lookup tys_of rfl rfl rfl iv rfl rfl rfl kI ?_))
  refine TO_puresN 5 tys_of rfl (TO_nil ?_)
  refine TC_seq ?_
  refine TC_region ?_
  refine TO_puresN 2 tys_of rfl (TO_nil ?_)
  refine TC_ret ?_
  repeat (first | refine TN_thenr ?_ | refine TN_blockr ?_)
  refine TN.fold (Tree p τ) (ent_pack r hok) ?_
  refine TN_rets tys_of () (.inl rfl) rfl (rs := [.tmp 4]) rfl (vs := [_]) ⟨rfl, trivial⟩ rfl trivial

theorem putK_len {kv : List (Int × Value)} {k : Int} {v : Value} : (putK kv k v).length ≤ kv.length + 1 := by
  unfold putK; split <;> simp
theorem putK_ints {kv : List (Int × Value)} {k n : Int} (h : ∀ x ∈ kv, ∃ n : Int, x.2 = iv n) : ∀ x ∈ putK kv k (iv n), ∃ n : Int, x.2 = iv n := by
  intro x hx
  unfold putK at hx
  split at hx
  · obtain ⟨j, hj⟩ := List.mem_iff_getElem?.1 hx
    rw [List.getElem?_modify] at hj
    cases he : kv[j]? with
    | none => rw [he] at hj; simp at hj
    | some y =>
      rw [he] at hj
      split at hj
      · simp at hj; exact ⟨n, by rw [← hj]⟩
      · simp at hj; rw [← hj]; exact h y (List.mem_of_getElem? he)
  · rcases List.mem_append.1 hx with h' | h'
    · exact h x h'
    · rw [List.mem_singleton.1 h']; exact ⟨n, rfl⟩
def treeAddR (τ : TreeM) (parent : Int) : Int × Int := if parent ≠ 0 ∧ liveT τ parent = false then (0, 6) else if τ.kv.length = 64 then (0, 5) else (τ.last + 1, 0)
def treeAdd (τ : TreeM) (parent : Int) : TreeM := if parent ≠ 0 ∧ liveT τ parent = false then τ else if τ.kv.length = 64 then τ else ⟨putK τ.kv (τ.last + 1) (iv parent), τ.last + 1⟩
theorem treeAdd_fn (S : Hp) (p : Nat) (τ : TreeM) (hl : τ.last < 2 ^ 62) (parent : Int) : FNs S prog F_tree_Tree_Add #[.pointer (some ⟨p, 0, none⟩), iv parent] [Tree p τ] (fun _ : Unit => .tuple #[iv (treeAddR τ parent).1, iv (treeAddR τ parent).2]) (fun _ => True) (fun _ => [Tree p (treeAdd τ parent)]) := by
  refine FNs_of_body func_tree_Tree_Add rfl ntmps_tree_Tree_Add rfl ?_
  intro R w0
  refine TC_seq ?_
  refine TC_region ?_
  refine TO_puresN 2 tys_of rfl (TO_nil ?_)
  refine TC_seq ?_
  refine TC_block ?_
  refine TC_seq ?_
  refine TC_region ?_
  refine TO_puresN 3 tys_of rfl (TO_nil ?_)
  refine TC_false rfl ?_
  refine TC_seq ?_
  refine TC_region ?_
  refine TO_puresN 1 tys_of rfl (TO_cons (TOp_bool tys_of rfl rfl (fun h11 => ?_) (fun h11 => ?_)))
  · -- t11 True: (Op.binOp BinOp.neq 3 (Operand.tmp 10) (Operand.const (Value.int IntKind.i64 0)) 3)
    try simp only [decide_eq_true_eq, decide_eq_false_iff_not, beq_iff_eq, bne_iff_ne, beq_eq_false_iff_ne, bne_eq_false_iff_eq, ne_eq, Bool.not_eq_true', Bool.not_eq_false', Decidable.not_not] at h11
    refine TO_puresN 3 tys_of rfl (TO_cons (TOp_calls rfl rfl cl_tree_Tree_Live (live_fn _ p τ parent) fun y15 hy15 => ?_))
    refine TO_puresN 0 tys_of rfl (TO_cons (TOp_bool tys_of rfl rfl (fun h16 => ?_) (fun h16 => ?_)))
    · -- t16 True: (Op.unOp UnOp.not 4 (Operand.tmp 15))
      try simp only [decide_eq_true_eq, decide_eq_false_iff_not, beq_iff_eq, bne_iff_ne, beq_eq_false_iff_ne, bne_eq_false_iff_eq, ne_eq, Bool.not_eq_true', Bool.not_eq_false', Decidable.not_not] at h16
      refine TO_puresN 2 tys_of rfl (TO_nil ?_)
      refine TC_true rfl ?_
      refine TC_seq ?_
      refine TC_region ?_
      refine TO_puresN 2 tys_of rfl (TO_nil ?_)
      refine TC_ret ?_
      repeat (first | refine TN_thenr ?_ | refine TN_blockr ?_)
      rw [show treeAdd τ parent = τ from if_pos ⟨h11, h16⟩]
      refine TN_rets tys_of () (.inl rfl) rfl (rs := [.tmp 4, .tmp 5]) rfl (vs := [_, _]) ⟨rfl, rfl, trivial⟩ (by rw [show treeAddR τ parent = (0, 6) from if_pos ⟨h11, h16⟩]; rfl) trivial
    · -- t16 False: (Op.unOp UnOp.not 4 (Operand.tmp 15))
      try simp only [decide_eq_true_eq, decide_eq_false_iff_not, beq_iff_eq, bne_iff_ne, beq_eq_false_iff_ne, bne_eq_false_iff_eq, ne_eq, Bool.not_eq_true', Bool.not_eq_false', Decidable.not_not] at h16
      have hlv : ¬ (parent ≠ 0 ∧ liveT τ parent = false) := fun hc => by rw [h16] at hc; cases hc.2
      refine TO_puresN 2 tys_of rfl (TO_nil ?_)
      refine TC_false rfl ?_
      refine TC_seq ?_
      refine TC_region ?_
      refine TO_puresN 1 tys_of rfl ?_
      refine TN.openP (Tree p τ) rfl fun r hok => ?_
      have hl0 := hok.l0
      refine TO_puresN 2 tys_of rfl (TO_cons (TOp_exact rfl (Ex_load tys_of rfl rfl rfl lies_find rfl) ?_))
      refine TO_puresN 0 tys_of rfl (TO_cons (TOp_maplen tys_of rfl rfl rfl rfl iv rfl rfl ?_))
      refine TO_puresN 0 tys_of rfl (TO_cons (TOp_bool tys_of rfl rfl (fun h24 => ?_) (fun h24 => ?_)))
      · -- t24 True: (Op.binOp BinOp.eql 3 (Operand.tmp 23) (Operand.const (Value.int IntKind.i64 64)) 3)
        try simp only [decide_eq_true_eq, decide_eq_false_iff_not, beq_iff_eq, bne_iff_ne, beq_eq_false_iff_ne, bne_eq_false_iff_eq, ne_eq, Bool.not_eq_true', Bool.not_eq_false', Decidable.not_not] at h24
        refine TO_puresN 1 tys_of rfl (TO_nil ?_)
        refine TC_true rfl ?_
        refine TC_seq ?_
        refine TC_region ?_
        refine TO_puresN 2 tys_of rfl (TO_nil ?_)
        refine TC_ret ?_
        repeat (first | refine TN_thenr ?_ | refine TN_blockr ?_)
        rw [show treeAdd τ parent = τ by unfold treeAdd; rw [if_neg hlv, if_pos (by omega)]]
        refine TN.fold (Tree p τ) (ent_pack r hok) ?_
        refine TN_rets tys_of () (.inl rfl) rfl (rs := [.tmp 4, .tmp 5]) rfl (vs := [_, _]) ⟨rfl, rfl, trivial⟩ (by rw [show treeAddR τ parent = (0, 5) by unfold treeAddR; rw [if_neg hlv, if_pos (by omega)]]; rfl) trivial
      · -- t24 False: (Op.binOp BinOp.eql 3 (Operand.tmp 23) (Operand.const (Value.int IntKind.i64 64)) 3)
        try simp only [decide_eq_true_eq, decide_eq_false_iff_not, beq_iff_eq, bne_iff_ne, beq_eq_false_iff_ne, bne_eq_false_iff_eq, ne_eq, Bool.not_eq_true', Bool.not_eq_false', Decidable.not_not] at h24
        refine TO_puresN 1 tys_of rfl (TO_nil ?_)
        refine TC_false rfl ?_
        refine TC_skip ?_
        try refine TN_blockn ?_
        refine TC_seq ?_
        refine TC_region ?_
        refine TO_puresN 3 tys_of rfl (TO_cons (TOp_exact rfl (Ex_load tys_of rfl rfl rfl lies_find rfl) ?_))
        refine TO_puresN 1 tys_of rfl ?_
        rw [wrap_i64 (by omega) (by omega)]
        refine TO_puresN 2 tys_of rfl (TO_cons (TOp_store tys_of rfl rfl rfl rfl rfl rfl rfl rfl ?_))
        refine TN.same p (l' := [.map (some r), iv (τ.last + 1)]) rfl ?_
        refine TO_puresN 0 tys_of rfl (TO_nil ?_)
        refine TC_seq ?_
        refine TC_draw (by kernel_rfl) (sep [cel p T_tree_Tree [.map (some r), iv (τ.last + 1)]]) 10 ?_
        refine TA_reads (fuel := 1) [0, 1, 2, 3, 4, 5, 6, 7, 8] rfl (fun _ _ _ h => h) (by decide +kernel) (by decide +kernel) (by decide +kernel) (by decide +kernel) ent_takes ?_
        refine TR_puresN 3 tys_of rfl (TR_exact rfl (Ex_load tys_of rfl rfl rfl keep_find rfl) ?_)
        refine TR_puresN 3 tys_of rfl (TR_exact rfl (Ex_load tys_of rfl rfl rfl keep_find rfl) ?_)
        refine TR_puresN 1 tys_of rfl (TR_done ?_)
        refine TA_one (fuel := 0) 9 (by decide +kernel) (TOp_mapUpdate tys_of rfl (.inl rfl) rfl iv rfl rfl rfl kI ?_)
        refine TB_low ent_takes ?_
        refine TA_nil ?_ (by decide +kernel)
        refine TC_seq ?_
        refine TC_region ?_
        refine TO_puresN 3 tys_of rfl (TO_cons (TOp_exact rfl (Ex_load tys_of rfl rfl rfl lies_find rfl) ?_))
        refine TO_puresN 2 tys_of rfl (TO_nil ?_)
        refine TC_ret ?_
        repeat (first | refine TN_thenr ?_ | refine TN_blockr ?_)
        rw [show treeAdd τ parent = ⟨putK τ.kv (τ.last + 1) (iv parent), τ.last + 1⟩ by unfold treeAdd; rw [if_neg hlv, if_neg (by omega)]]
        refine TN.fold (Tree p ⟨putK τ.kv (τ.last + 1) (iv parent), τ.last + 1⟩) (ent_pack r ⟨show 0 ≤ τ.last + 1 by omega, putK_ints hok.ints, by have := putK_len (kv := τ.kv) (k := τ.last + 1) (v := iv parent); have := hok.len; dsimp only; omega⟩) ?_
        refine TN_rets tys_of () (.inl rfl) rfl (rs := [.tmp 4, .tmp 5]) rfl (vs := [_, _]) ⟨rfl, rfl, trivial⟩ (by rw [show treeAddR τ parent = (τ.last + 1, 0) by unfold treeAddR; rw [if_neg hlv, if_neg (by omega)]]; rfl) trivial
  · -- t11 False: (Op.binOp BinOp.neq 3 (Operand.tmp 10) (Operand.const (Value.int IntKind.i64 0)) 3)
    try simp only [decide_eq_true_eq, decide_eq_false_iff_not, beq_iff_eq, bne_iff_ne, beq_eq_false_iff_ne, bne_eq_false_iff_eq, ne_eq, Bool.not_eq_true', Bool.not_eq_false', Decidable.not_not] at h11
    have hlv : ¬ (parent ≠ 0 ∧ liveT τ parent = false) := fun hc => hc.1 h11
    refine TO_puresN 7 tys_of rfl (TO_nil ?_)
    refine TC_false rfl ?_
    refine TC_seq ?_
    refine TC_region ?_
    refine TO_puresN 1 tys_of rfl ?_
    refine TN.openP (Tree p τ) rfl fun r hok => ?_
    have hl0 := hok.l0
    refine TO_puresN 2 tys_of rfl (TO_cons (TOp_exact rfl (Ex_load tys_of rfl rfl rfl lies_find rfl) ?_))
    refine TO_puresN 0 tys_of rfl (TO_cons (TOp_maplen tys_of rfl rfl rfl rfl iv rfl rfl ?_))
    refine TO_puresN 0 tys_of rfl (TO_cons (TOp_bool tys_of rfl rfl (fun h24 => ?_) (fun h24 => ?_)))
    · -- t24 True: (Op.binOp BinOp.eql 3 (Operand.tmp 23) (Operand.const (Value.int IntKind.i64 64)) 3)
      try simp only [decide_eq_true_eq, decide_eq_false_iff_not, beq_iff_eq, bne_iff_ne, beq_eq_false_iff_ne, bne_eq_false_iff_eq, ne_eq, Bool.not_eq_true', Bool.not_eq_false', Decidable.not_not] at h24
      refine TO_puresN 1 tys_of rfl (TO_nil ?_)
      refine TC_true rfl ?_
      refine TC_seq ?_
      refine TC_region ?_
      refine TO_puresN 2 tys_of rfl (TO_nil ?_)
      refine TC_ret ?_
      repeat (first | refine TN_thenr ?_ | refine TN_blockr ?_)
      rw [show treeAdd τ parent = τ by unfold treeAdd; rw [if_neg hlv, if_pos (by omega)]]
      refine TN.fold (Tree p τ) (ent_pack r hok) ?_
      refine TN_rets tys_of () (.inl rfl) rfl (rs := [.tmp 4, .tmp 5]) rfl (vs := [_, _]) ⟨rfl, rfl, trivial⟩ (by rw [show treeAddR τ parent = (0, 5) by unfold treeAddR; rw [if_neg hlv, if_pos (by omega)]]; rfl) trivial
    · -- t24 False: (Op.binOp BinOp.eql 3 (Operand.tmp 23) (Operand.const (Value.int IntKind.i64 64)) 3)
      try simp only [decide_eq_true_eq, decide_eq_false_iff_not, beq_iff_eq, bne_iff_ne, beq_eq_false_iff_ne, bne_eq_false_iff_eq, ne_eq, Bool.not_eq_true', Bool.not_eq_false', Decidable.not_not] at h24
      refine TO_puresN 1 tys_of rfl (TO_nil ?_)
      refine TC_false rfl ?_
      refine TC_skip ?_
      try refine TN_blockn ?_
      refine TC_seq ?_
      refine TC_region ?_
      refine TO_puresN 3 tys_of rfl (TO_cons (TOp_exact rfl (Ex_load tys_of rfl rfl rfl lies_find rfl) ?_))
      refine TO_puresN 1 tys_of rfl ?_
      rw [wrap_i64 (by omega) (by omega)]
      refine TO_puresN 2 tys_of rfl (TO_cons (TOp_store tys_of rfl rfl rfl rfl rfl rfl rfl rfl ?_))
      refine TN.same p (l' := [.map (some r), iv (τ.last + 1)]) rfl ?_
      refine TO_puresN 0 tys_of rfl (TO_nil ?_)
      refine TC_seq ?_
      refine TC_draw (by kernel_rfl) (sep [cel p T_tree_Tree [.map (some r), iv (τ.last + 1)]]) 10 ?_
      refine TA_reads (fuel := 1) [0, 1, 2, 3, 4, 5, 6, 7, 8] rfl (fun _ _ _ h => h) (by decide +kernel) (by decide +kernel) (by decide +kernel) (by decide +kernel) ent_takes ?_
      refine TR_puresN 3 tys_of rfl (TR_exact rfl (Ex_load tys_of rfl rfl rfl keep_find rfl) ?_)
      refine TR_puresN 3 tys_of rfl (TR_exact rfl (Ex_load tys_of rfl rfl rfl keep_find rfl) ?_)
      refine TR_puresN 1 tys_of rfl (TR_done ?_)
      refine TA_one (fuel := 0) 9 (by decide +kernel) (TOp_mapUpdate tys_of rfl (.inl rfl) rfl iv rfl rfl rfl kI ?_)
      refine TB_low ent_takes ?_
      refine TA_nil ?_ (by decide +kernel)
      refine TC_seq ?_
      refine TC_region ?_
      refine TO_puresN 3 tys_of rfl (TO_cons (TOp_exact rfl (Ex_load tys_of rfl rfl rfl lies_find rfl) ?_))
      refine TO_puresN 2 tys_of rfl (TO_nil ?_)
      refine TC_ret ?_
      repeat (first | refine TN_thenr ?_ | refine TN_blockr ?_)
      rw [show treeAdd τ parent = ⟨putK τ.kv (τ.last + 1) (iv parent), τ.last + 1⟩ by unfold treeAdd; rw [if_neg hlv, if_neg (by omega)]]
      refine TN.fold (Tree p ⟨putK τ.kv (τ.last + 1) (iv parent), τ.last + 1⟩) (ent_pack r ⟨show 0 ≤ τ.last + 1 by omega, putK_ints hok.ints, by have := putK_len (kv := τ.kv) (k := τ.last + 1) (v := iv parent); have := hok.len; dsimp only; omega⟩) ?_
      refine TN_rets tys_of () (.inl rfl) rfl (rs := [.tmp 4, .tmp 5]) rfl (vs := [_, _]) ⟨rfl, rfl, trivial⟩ (by rw [show treeAddR τ parent = (τ.last + 1, 0) by unfold treeAddR; rw [if_neg hlv, if_neg (by omega)]]; rfl) trivial
end Go.Sl.Tz

/-
  The library's sort, laid by the shelf's command.
-/
namespace Go.Proofs
def Tryz.lays189_ren : Go.Shelf.Ren := ⟨fun | 189 => 74 | 125 => 166 | 257 => 165 | 128 => 231 | 129 => 232 | 294 => 222 | 295 => 223 | 296 => 224 | 297 => 225 | 298 => 226 | 299 => 227 | 216 => 228 | 300 => 229 | 301 => 230 | 328 => 267 | 329 => 268 | 330 => 269 | 331 => 270 | 332 => 271 | 215 => 264 | 343 => 284 | n => n, fun | 28 => 25 | 3 => 3 | 46 => 252 | 0 => 0 | 51 => 307 | 53 => 62 | 4 => 4 | 183 => 300 | 182 => 299 | 131 => 134 | 5 => 5 | 9 => 9 | 218 => 334 | 222 => 338 | 228 => 350 | 229 => 351 | n => n, fun | n => n⟩
theorem Tryz.lays189 : Go.Proofs.Lays.n189 Tryz.prog Tryz.lays189_ren := {
  mixed := by kernel_rfl,
  f125 := Tryz.func166.trans (congrArg some (by kernel_rfl)),
  f128 := Tryz.func231.trans (congrArg some (by kernel_rfl)),
  f129 := Tryz.func232.trans (congrArg some (by kernel_rfl)),
  f189 := Tryz.func74.trans (congrArg some (by kernel_rfl)),
  f215 := Tryz.func264.trans (congrArg some (by kernel_rfl)),
  f216 := Tryz.func228.trans (congrArg some (by kernel_rfl)),
  f257 := Tryz.func165.trans (congrArg some (by kernel_rfl)),
  f294 := Tryz.func222.trans (congrArg some (by kernel_rfl)),
  f295 := Tryz.func223.trans (congrArg some (by kernel_rfl)),
  f296 := Tryz.func224.trans (congrArg some (by kernel_rfl)),
  f297 := Tryz.func225.trans (congrArg some (by kernel_rfl)),
  f298 := Tryz.func226.trans (congrArg some (by kernel_rfl)),
  f299 := Tryz.func227.trans (congrArg some (by kernel_rfl)),
  f300 := Tryz.func229.trans (congrArg some (by kernel_rfl)),
  f301 := Tryz.func230.trans (congrArg some (by kernel_rfl)),
  f328 := Tryz.func267.trans (congrArg some (by kernel_rfl)),
  f329 := Tryz.func268.trans (congrArg some (by kernel_rfl)),
  f330 := Tryz.func269.trans (congrArg some (by kernel_rfl)),
  f331 := Tryz.func270.trans (congrArg some (by kernel_rfl)),
  f332 := Tryz.func271.trans (congrArg some (by kernel_rfl)),
  f343 := Tryz.func284.trans (congrArg some (by kernel_rfl)),
  t0 := Tryz.underlying0,
  a0 := Tryz.isAgg0,
  z0 := Tryz.sizeOf0,
  v0 := Tryz.zeroValue0,
  t3 := Tryz.underlying3,
  a3 := Tryz.isAgg3,
  z3 := Tryz.sizeOf3,
  v3 := Tryz.zeroValue3,
  t4 := Tryz.underlying4,
  a4 := Tryz.isAgg4,
  z4 := Tryz.sizeOf4,
  v4 := Tryz.zeroValue4,
  t5 := Tryz.underlying5,
  a5 := Tryz.isAgg5,
  z5 := Tryz.sizeOf5,
  v5 := Tryz.zeroValue5,
  t9 := Tryz.underlying9,
  a9 := Tryz.isAgg9,
  z9 := Tryz.sizeOf9,
  v9 := Tryz.zeroValue9,
  t28 := Tryz.underlying25,
  a28 := Tryz.isAgg25,
  z28 := Tryz.sizeOf25,
  v28 := Tryz.zeroValue25,
  t46 := Tryz.underlying252,
  a46 := Tryz.isAgg252,
  z46 := Tryz.sizeOf252,
  v46 := Tryz.zeroValue252,
  t51 := Tryz.underlying307,
  a51 := Tryz.isAgg307,
  z51 := Tryz.sizeOf307,
  v51 := Tryz.zeroValue307,
  t53 := Tryz.underlying62,
  a53 := Tryz.isAgg62,
  z53 := Tryz.sizeOf62,
  v53 := Tryz.zeroValue62,
  t131 := Tryz.underlying134,
  a131 := Tryz.isAgg134,
  z131 := Tryz.sizeOf134,
  v131 := Tryz.zeroValue134,
  t182 := Tryz.underlying299,
  a182 := Tryz.isAgg299,
  z182 := Tryz.sizeOf299,
  v182 := Tryz.zeroValue299,
  t183 := Tryz.underlying300,
  a183 := Tryz.isAgg300,
  z183 := Tryz.sizeOf300,
  v183 := Tryz.zeroValue300,
  t218 := Tryz.underlying334,
  a218 := Tryz.isAgg334,
  z218 := Tryz.sizeOf334,
  v218 := Tryz.zeroValue334,
  t222 := Tryz.underlying338,
  a222 := Tryz.isAgg338,
  z222 := Tryz.sizeOf338,
  v222 := Tryz.zeroValue338,
  t228 := Tryz.underlying350,
  a228 := Tryz.isAgg350,
  z228 := Tryz.sizeOf350,
  v228 := Tryz.zeroValue350,
  t229 := Tryz.underlying351,
  a229 := Tryz.isAgg351,
  z229 := Tryz.sizeOf351,
  v229 := Tryz.zeroValue351 }
end Go.Proofs
namespace Go.Sl.Tz
open Go Go.Proofs Go.Sl
set_option maxRecDepth 100000

theorem Sat.grows {w w' : World} {A : HProp} (h : Sat w A) (hk : ∀ k, k < w.heap.size → w'.heap[k]? = w.heap[k]?) : Sat w' A := by
  obtain ⟨x, hx, ha⟩ := h
  refine ⟨x, fun b o hb => ?_, ha⟩
  have := hx b o hb
  rw [hk b (Array.getElem?_eq_some_iff.1 this).1]; exact this
theorem putCells_row (pre sp : List Value) (xs ys : List Int) (hl : ys.length = xs.length) : Go.Sort.putCells (Value.int .i64) pre.length ys.toArray (pre ++ (xs.map iv ++ sp)).toArray = (pre ++ (ys.map iv ++ sp)).toArray := by
  apply Array.ext_getElem?
  intro j
  unfold Go.Sort.putCells
  rw [Array.getElem?_mapIdx]
  simp only [List.getElem?_toArray]
  rcases Nat.lt_or_ge j pre.length with h | h
  · rw [List.getElem?_append_left h, List.getElem?_append_left h]
    cases pre[j]? <;> simp [show ¬ pre.length ≤ j by omega]
  · rw [List.getElem?_append_right h, List.getElem?_append_right h]
    rcases Nat.lt_or_ge (j - pre.length) xs.length with h2 | h2
    · rw [List.getElem?_append_left (by simpa using h2), List.getElem?_append_left (by simp; omega)]
      simp [h2, h, show j < pre.length + ys.length by omega, show j - pre.length < ys.length by omega]
    · rw [List.getElem?_append_right (by simpa using h2), List.getElem?_append_right (by simp; omega)]
      simp only [List.length_map, hl]
      cases sp[j - pre.length - xs.length]? <;> simp [show ¬ j < pre.length + ys.length by omega]
theorem sortSome (S : Hp) (g : Nat) (pre sp : List Value) (cap : Nat) (xs : List Int) (hb : xs.length < 4611686018427387904) :
    FN S prog F_slices_Sort_int_int #[.slice (some ⟨g, pre.length, none⟩) xs.length cap] (cel g T_int (pre ++ (xs.map iv ++ sp)))
      (fun v => star (lift (v = .tuple #[])) (cel g T_int (pre ++ ((xs.mergeSort fun x y => decide (x ≤ y)).map iv ++ sp)))) := fun R w hs => by
  have hblk := hs.pt
  have hlt := (Array.getElem?_eq_some_iff.1 hblk).1
  have hH : Go.Sort.Holds (Value.int .i64) w g pre.length xs.toArray := by
    intro j hj
    have hj' : j < xs.length := by simpa using hj
    refine ⟨?_, frozen_of_row w g _ _ _ hblk⟩
    rw [cell_of_row w g _ _ _ _ hblk]
    simp [List.getElem?_append_right, hj']
    rw [List.getElem?_append_left (by simpa using hj'), List.getElem?_map, List.getElem?_eq_getElem hj']; rfl
  refine (Any.slices_Sort_int Tryz.lays189 g pre.length cap xs w hH hlt hb).mono ?_
  rintro e w' ⟨rfl, n, os, rfl⟩
  have hlen : (xs.mergeSort fun x y => decide (x ≤ y)).length = xs.length := List.length_mergeSort _
  have hsize : (Go.Sort.putRow (Value.int .i64) (Go.Sort.ahead w n) g pre.length (xs.mergeSort fun x y => decide (x ≤ y)).toArray).heap.size = w.heap.size := by simp [Go.Sort.ahead]
  refine ⟨_, rfl, ?_, ⟨rfl, rfl, by rw [Go.Sort.size_grow, hsize]; omega⟩⟩
  have h1 : Sat (Go.Sort.putRow (Value.int .i64) (Go.Sort.ahead w n) g pre.length (xs.mergeSort fun x y => decide (x ≤ y)).toArray) (star (cel g T_int (pre ++ ((xs.mergeSort fun x y => decide (x ≤ y)).map iv ++ sp))) (star (own S) R)) := by
    refine hs.set (o' := .cells (pre ++ ((xs.mergeSort fun x y => decide (x ≤ y)).map iv ++ sp)).toArray T_int) ?_ ?_
    · unfold Go.Sort.putRow Go.Sort.mapBlock Go.Sort.ahead
      simp only [Array.getElem?_modify, if_true, hblk, Option.map_some, Go.Sort.onCells, putCells_row pre sp xs _ hlen]
    · intro k hk
      unfold Go.Sort.putRow Go.Sort.mapBlock Go.Sort.ahead
      simp only [Array.getElem?_modify, Ne.symm hk, if_false]
  refine (Sat.grows h1 fun k hk => Go.Sort.heap_grow_old _ _ hk).mono (Ent.star (fun x hx => (lift_star _ _ _).2 ⟨rfl, hx⟩) (.refl _))

def sortI (xs : List Int) : List Int := xs.mergeSort fun x y => decide (x ≤ y)
theorem sort_fn (S : Hp) (s : Slc) (xs : List Int) (hb : xs.length < 4611686018427387904) : FNs S prog F_slices_Sort_int_int #[s.val] [Row s T_int 1 (xs.map iv)] (fun _ : Unit => .tuple #[]) (fun _ => True) (fun _ => [Row s T_int 1 ((sortI xs).map iv)]) := by
  have hlen : (sortI xs).length = xs.length := List.length_mergeSort _
  unfold Row
  refine FNs.unpack (R := []) fun x hx => ?_
  cases x with
  | none =>
    obtain ⟨rfl, hxs⟩ := hx
    have hx0 : xs = [] := by simpa using hxs
    subst hx0
    intro R w hs
    refine (Any.slices_Sort_int_none Tryz.lays189 none 0 w).mono ?_
    rintro e w' ⟨rfl, rfl⟩
    refine ⟨_, rfl, hs.mono (Ent.star (fun h hh => ⟨(), (lift_star _ _ _).2 ⟨⟨rfl, trivial⟩, ?_⟩⟩) (.refl _)), Kept.refl _⟩
    rw [show sortI [] = [] by simp [sortI]]
    show star (Row nilS T_int 1 []) emp h
    rw [star_emp]
    exact Row.nil T_int 1 h hh
  | some x =>
    obtain ⟨g, pre, sp⟩ := x
    obtain ⟨ha, hl, hn, hc, hcell⟩ := hx
    have hn' : s.n = xs.length := by simpa using hl.symm
    intro R w hs
    have hs' : Sat w (star (cel g T_int (pre ++ (xs.map iv ++ sp))) (star (own S) R)) := by
      have : Sat w (star (star (cel g T_int (pre ++ (xs.map iv ++ sp))) emp) (star (own S) R)) := hs
      rwa [star_emp] at this
    have hv : s.val = .slice (some ⟨g, pre.length, none⟩) xs.length s.cap := by unfold Slc.val; rw [ha, hn']
    rw [hv]
    refine (sortSome S g pre sp s.cap xs hb R w hs').mono ?_
    rintro e w' ⟨v, rfl, h1, h2⟩
    have h1' : Sat w' (star (star (lift (v = .tuple #[])) (cel g T_int (pre ++ ((sortI xs).map iv ++ sp)))) (star (own S) R)) := h1
    rw [star_assoc] at h1'
    obtain ⟨rfl, h3⟩ := Sat.lift.1 h1'
    refine ⟨_, rfl, h3.mono (Ent.star (A := cel g T_int (pre ++ ((sortI xs).map iv ++ sp))) (fun h hh => ⟨(), (lift_star _ _ _).2 ⟨⟨rfl, trivial⟩, ?_⟩⟩) (.refl _)), h2⟩
    show star (Row s T_int 1 ((sortI xs).map iv)) emp h
    rw [star_emp]
    refine Row.ent (some (g, pre, sp)) ⟨ha, by rw [List.length_map, hlen]; simpa using hl, hn, by rw [List.length_map, hlen]; simpa using hc, cells_iv _⟩ h ?_
    show star (cel g T_int (pre ++ ((sortI xs).map iv ++ sp))) emp h
    rw [star_emp]
    exact hh
end Go.Sl.Tz

/-
  Separation logic over the model's heap: what an activation has still to do, as data; plain steps are made by one function.
-/
namespace Go.Sl
open Go

instance (priority := low) Takes.whole {M R : List HProp} : Takes M (M ++ R) R := ⟨sep_append M R⟩
/-- What waits behind the present code. -/
inductive Fr where
  | seq (c : Code)
  | blk (id : Nat)
  | andThen (K : Act → World → Prop)

/-- What is asked where the present code is left. -/
def konts (Γ : Ctx) (Q0 : Exit → Act → World → Prop) : List Fr → Exit → Act → World → Prop
  | [] => Q0
  | .seq c :: fs => Exit.then (c.wpIn Γ.F 0 Γ.P (konts Γ Q0 fs)) (konts Γ Q0 fs)
  | .blk id :: fs => Exit.inBlock id (konts Γ Q0 fs)
  | .andThen K :: fs => Exit.then K (konts Γ Q0 fs)

inductive St where
  | code (c : Code)
  | ops (ops : Array Oper) (l : List Nat)
  | ex (e : Exit)

def den (Γ : Ctx) (Q0 : Exit → Act → World → Prop) (fs : List Fr) : St → Act → World → Prop
  | .code c => c.wpIn Γ.F 0 Γ.P (konts Γ Q0 fs)
  | .ops ops l => wpOpsIn Γ.F 0 Γ.P ops (konts Γ Q0 fs) l
  | .ex e => konts Γ Q0 fs e

/-- From here on: a state, what waits, what is known, what is owned. -/
abbrev TM (Γ : Ctx) (Q0 : Exit → Act → World → Prop) (s : St) (fs : List Fr) (E : Env) (A : HProp) : Prop := TN Γ (den Γ Q0 fs s) E A

def stepM (T : Tys) (s : St) (fs : List Fr) (E : Env) : Option (St × List Fr × Env) :=
  match s with
  | .code c => match c with
    | .skip => some (.ex .normal, fs, E)
    | .label _ => some (.ex .normal, fs, E)
    | .exit id => some (.ex (.exit id), fs, E)
    | .ret => some (.ex .ret, fs, E)
    | .seq x y => some (.code x, .seq y :: fs, E)
    | .block id c => some (.code c, .blk id :: fs, E)
    | .cond c x y => match E.get c with
      | some (.bool true) => some (.code x, fs, E)
      | some (.bool false) => some (.code y, fs, E)
      | _ => none
    | .region _ ops false => some (.ops ops (List.range ops.size), fs, E)
    | _ => none
  | .ops ops l => match l with
    | [] => some (.ex .normal, fs, E)
    | i :: r => match stepPure T ops E i with
      | some E' => some (.ops ops r, fs, E')
      | none => none
  | .ex e => match e, fs with
    | .normal, .seq c :: fs => some (.code c, fs, E)
    | .normal, .blk _ :: fs => some (.ex .normal, fs, E)
    | .ret, .seq _ :: fs => some (.ex .ret, fs, E)
    | .ret, .blk _ :: fs => some (.ex .ret, fs, E)
    | .ret, .andThen _ :: fs => some (.ex .ret, fs, E)
    | .exit id, .seq _ :: fs => some (.ex (.exit id), fs, E)
    | .exit id, .andThen _ :: fs => some (.ex (.exit id), fs, E)
    | .exit id, .blk id' :: fs => match Nat.beq id id' with
      | true => some (.ex .normal, fs, E)
      | false => some (.ex (.exit id), fs, E)
    | _, _ => none

section
variable {Γ : Ctx} {Q0 : Exit → Act → World → Prop} {T : Tys} {E : Env} {A : HProp} {fs : List Fr}

theorem stepM_sound (hT : T.Of Γ.P) {s s' : St} {fs' : List Fr} {E' : Env} (h : stepM T s fs E = some (s', fs', E')) (k : TM Γ Q0 s' fs' E' A) : TM Γ Q0 s fs E A := by
  unfold stepM at h
  split at h
  · split at h
    · cases h; exact TC_skip k
    · cases h; exact TC_label k
    · cases h; exact TC_exit k
    · cases h; exact TC_ret k
    · cases h; exact TC_seq k
    · cases h; exact TC_block k
    · split at h
      · rename_i hc; cases h; exact TC_true hc k
      · rename_i hc; cases h; exact TC_false hc k
      · cases h
    · cases h; exact TC_region k
    · cases h
  · split at h
    · rename_i ops l; cases h; exact TO_nil (ops := ops) k
    · split at h
      · rename_i hs; cases h; exact TO_step hT hs k
      · cases h
  · split at h
    · cases h; exact k
    · rename_i id fs; cases h; exact TN_blockn (id := id) k
    · cases h; exact k
    · cases h; exact k
    · cases h; exact k
    · cases h; exact k
    · cases h; exact k
    · split at h
      · rename_i hid
        cases h
        have := Nat.eq_of_beq_eq_true hid
        subst this
        exact TN_exit (Q := konts Γ Q0 _) k
      · rename_i hid
        cases h
        exact TN_exitx (Q := konts Γ Q0 _) (fun e => by subst e; simp at hid) k
    · cases h

def runM (T : Tys) : Nat → St → List Fr → Env → Option (St × List Fr × Env)
  | 0, s, fs, E => some (s, fs, E)
  | n + 1, s, fs, E => match stepM T s fs E with
    | some (s', fs', E') => runM T n s' fs' E'
    | none => none

/-- So many plain steps. -/
theorem TM_run (n : Nat) (hT : T.Of Γ.P) {s s' : St} {fs' : List Fr} {E' : Env} (h : runM T n s fs E = some (s', fs', E')) (k : TM Γ Q0 s' fs' E' A) : TM Γ Q0 s fs E A := by
  induction n generalizing s fs E with
  | zero => cases h; exact k
  | succ n ih =>
    unfold runM at h
    split at h
    · rename_i hs; exact stepM_sound hT hs (ih h)
    · cases h

/-- An operation comes up. -/
theorem TM_op {ops : Array Oper} {i : Nat} {r : List Nat} (h : TOp Γ ops (konts Γ Q0 fs) i (den Γ Q0 fs (.ops ops r)) E A) : TM Γ Q0 (.ops ops (i :: r)) fs E A := TO_cons h

/-- Steps, then an operation. -/
theorem TM_ops (n : Nat) (hT : T.Of Γ.P) {s : St} {fs' : List Fr} {E' : Env} {ops : Array Oper} {i : Nat} {r : List Nat} (h : runM T n s fs E = some (.ops ops (i :: r), fs', E'))
    (k : TOp Γ ops (konts Γ Q0 fs') i (den Γ Q0 fs' (.ops ops r)) E' A) : TM Γ Q0 s fs E A := TM_run n hT h (TM_op k)

/-- The start of a body. -/
theorem TM_start {c : Code} (h : TM Γ Q0 (.code c) [] E A) : TC Γ c Q0 E A := h

/-- A truth by which the way parts: what is known of it is known of its temporary. -/
theorem TM_bool {s : St} {t : Nat} {b : Bool} (hv : look t E.vals = some (.bool b)) (h1 : b = true → TM Γ Q0 s fs (E.put (some t) (.bool true)) A) (h2 : b = false → TM Γ Q0 s fs (E.put (some t) (.bool false)) A) : TM Γ Q0 s fs E A := by
  have key : ∀ b' : Bool, b = b' → E.le (E.put (some t) (.bool b')) := fun b' e => by
    refine ⟨rfl, rfl, fun u v hu => ?_⟩
    simp only [Env.put, look_cons] at hu
    by_cases h : t = u
    · subst h; rw [if_pos rfl] at hu; rw [hv, e]; exact hu
    · rw [if_neg h] at hu; exact hu
  cases hb : b with
  | true => exact (h1 hb).conseq (key true hb) (.refl _)
  | false => exact (h2 hb).conseq (key false hb) (.refl _)
theorem TM_dec {s : St} {t : Nat} {p : Prop} [Decidable p] (hv : look t E.vals = some (.bool (decide p))) (h1 : p → TM Γ Q0 s fs (E.put (some t) (.bool true)) A) (h2 : ¬ p → TM Γ Q0 s fs (E.put (some t) (.bool false)) A) : TM Γ Q0 s fs E A :=
  TM_bool hv (fun h => h1 (of_decide_eq_true h)) (fun h => h2 (of_decide_eq_false h))
theorem TM_ndec {s : St} {t : Nat} {p : Prop} [Decidable p] (hv : look t E.vals = some (.bool (!decide p))) (h1 : ¬ p → TM Γ Q0 s fs (E.put (some t) (.bool true)) A) (h2 : p → TM Γ Q0 s fs (E.put (some t) (.bool false)) A) : TM Γ Q0 s fs E A :=
  TM_bool hv (fun h => h1 (by simpa using h)) (fun h => h2 (by simpa using h))
theorem TM_nbool {s : St} {t : Nat} {b : Bool} (hv : look t E.vals = some (.bool (!b))) (h1 : b = false → TM Γ Q0 s fs (E.put (some t) (.bool true)) A) (h2 : b = true → TM Γ Q0 s fs (E.put (some t) (.bool false)) A) : TM Γ Q0 s fs E A :=
  TM_bool hv (fun h => h1 (by simpa using h)) (fun h => h2 (by simpa using h))
theorem TM_eq {s : St} {t : Nat} {α : Type} [DecidableEq α] {x y : α} (hv : look t E.vals = some (.bool (x == y))) (h1 : x = y → TM Γ Q0 s fs (E.put (some t) (.bool true)) A) (h2 : x ≠ y → TM Γ Q0 s fs (E.put (some t) (.bool false)) A) : TM Γ Q0 s fs E A :=
  TM_bool hv (fun h => h1 (by simpa using h)) (fun h => h2 (by simpa using h))
theorem TM_ne {s : St} {t : Nat} {α : Type} [DecidableEq α] {x y : α} (hv : look t E.vals = some (.bool (x != y))) (h1 : x ≠ y → TM Γ Q0 s fs (E.put (some t) (.bool true)) A) (h2 : x = y → TM Γ Q0 s fs (E.put (some t) (.bool false)) A) : TM Γ Q0 s fs E A :=
  TM_bool hv (fun h => h1 (by simpa using h)) (fun h => h2 (by simpa using h))

/-- A region that draws its order. -/
theorem TM_draw {id : Nat} {ops : Array Oper} (hm : Γ.P.follows .mixedOrders = true) (I : HProp) (N : Nat) (h : TA Γ ops (konts Γ Q0 fs) I N ops.size (Array.replicate ops.size false) E A) :
    TM Γ Q0 (.code (.region id ops true)) fs E A := TC_draw hm I N h
theorem TM_drawn {ops : Array Oper} {I : HProp} {N fuel : Nat} {listed : Array Bool} (h : TM Γ Q0 (.ex .normal) fs E A) (hr : Region.ready .any ops listed = []) : TA Γ ops (konts Γ Q0 fs) I N fuel listed E A := TA_nil h hr

/-- The loop's round ends: some other x, of less measure. -/
def againK (Γ : Ctx) {ι : Type} (φ : ι → Prop) (J : ι → Env) (B : ι → List HProp) (μ : ι → Nat) (x : ι) : Act → World → Prop := fun a w => ∃ y, φ y ∧ μ y < μ x ∧ (J y).holds a ∧ Γ.ok w (sep (B y))
/-- Ways that part come together: of some y. -/
def joinK (Γ : Ctx) {ι : Type} (φ : ι → Prop) (J : ι → Env) (B : ι → List HProp) : Act → World → Prop := fun a w => ∃ y, φ y ∧ (J y).holds a ∧ Γ.ok w (sep (B y))
/-- A loop. -/
theorem TM_loop {L : List HProp} {c : Code} {ι : Type} (φ : ι → Prop) (J : ι → Env) (B : ι → List HProp) (μ : ι → Nat) (x : ι) (hx : φ x) (hE : E.le (J x)) {R : List HProp} [ht : Takes (B x) L R]
    (h : ∀ x, φ x → TM Γ Q0 (.code c) (.andThen (againK Γ φ J B μ x) :: fs) (J x) (sep (B x))) : TM Γ Q0 (.code (.loop c)) fs E (sep L) :=
  TC_loopP φ J B μ x hx hE h
theorem TM_again {L : List HProp} {ι : Type} {φ : ι → Prop} {J : ι → Env} {B : ι → List HProp} {μ : ι → Nat} {x : ι} (y : ι) (hy : φ y) (hlt : μ y < μ x) (hE : E.le (J y)) {R : List HProp} [ht : Takes (B y) L R] :
    TM Γ Q0 (.ex .normal) (.andThen (againK Γ φ J B μ x) :: fs) E (sep L) := TN_againP (Q := konts Γ Q0 fs) y hy hlt hE
/-- What is owned, by another name. -/
theorem TN.re {K : Act → World → Prop} (A B : HProp) {L R : List HProp} (e : A = B) [ht : Take1 A L R] (h : TN Γ K E (sep (B :: R))) : TN Γ K E (sep L) := by
  rw [show sep L = sep (B :: R) by rw [ht.out, e]; rfl]; exact h
/-- Cells, by another name. -/
theorem TN.as {K : Act → World → Prop} (b : Nat) (B : HProp) {t : TypeId} {l : List Value} {L R : List HProp} [ht : TakeCel b L t l R] (e : cel b t l = B) (h : TN Γ K E (sep (B :: R))) : TN Γ K E (sep L) := by
  rw [show sep L = sep (B :: R) by rw [ht.out, e]; rfl]; exact h
/-- What a map has, by another name. -/
theorem TN.mapAs {K : Act → World → Prop} {κ : Type} (enc : κ → Value) (r : Nat) (kv' : List (κ × Value)) {kv : List (κ × Value)} {L R : List HProp} [ht : TakeMap enc r L kv R] (e : kv = kv') (h : TN Γ K E (sep (MapOf enc r kv' :: R))) : TN Γ K E (sep L) := by
  rw [show sep L = sep (MapOf enc r kv' :: R) by rw [ht.out, e]; rfl]; exact h
/-- What is packed is taken apart. -/
theorem TN.open {K : Act → World → Prop} (A : HProp) {ι : Sort _} {φ : ι → Prop} {M : ι → List HProp} {L R : List HProp} (e : A = Pack φ M) [ht : Take1 A L R] (h : ∀ x, φ x → TN Γ K E (sep (M x ++ R))) : TN Γ K E (sep L) :=
  TN.re A (Pack φ M) e (TN.unpack h)
/-- Things are packed. -/
theorem TN.shut {K : Act → World → Prop} (A : HProp) {ι : Sort _} {φ : ι → Prop} {M : ι → List HProp} (e : A = Pack φ M) (x : ι) (hx : φ x) {L R : List HProp} [ht : Takes (M x) L R] (h : TN Γ K E (sep (A :: R))) : TN Γ K E (sep L) :=
  TN.pack (φ := φ) (L := M) x hx (by rw [← e]; exact h)
end
end Go.Sl

/-
  Separation logic over the model's heap: loads of a row's elements, by their place.
-/
namespace Go.Sl.Tz
open Go Go.Sl
abbrev pv (p : Nat) : Value := .pointer (some ⟨p, 0, none⟩)
abbrev mv (r : Nat) : Value := .map (some r)

theorem get_bang {α : Type} [Inhabited α] {l : List α} {m : Nat} (h : m < l.length) : l[m]? = some l[m]! := by
  rw [List.getElem!_eq_getElem?_getD, List.getElem?_eq_getElem h]; rfl
theorem map_bang {α : Type} [Inhabited α] {f : α → Value} {l : List α} {m : Nat} (h : m < l.length) : (l.map f)[m]? = some (f l[m]!) := by
  rw [List.getElem?_map, get_bang h]; rfl
theorem load_map {α : Type} [Inhabited α] {f : α → Value} {y : Ty} {pre sp : List Value} {l : List α} {m : Nat} (hy : aggTy y.ud = false) (h : m < l.length) :
    loadL y (pre ++ (l.map f ++ sp)) (pre.length + m * 1) = some (f l[m]!) := loadL_row (loadL_one hy (map_bang h))
theorem load_flat0 {α : Type} [Inhabited α] {c : α → List Value} {y : Ty} {l : List α} {m k : Nat} (hy : aggTy y.ud = true) (hk : y.size = k) (hc : ∀ a, (c a).length = k) (h : m < l.length) :
    loadL y (l.flatMap c) (0 + m * k) = some (.agg (c l[m]!).toArray) := by
  subst hk
  rw [Nat.zero_add, loadL_flat hy hc h]
  simp [getElem!_pos l m h]
theorem bnd_some {E : Env} {x : Operand} {d k : Nat} {kd : IntKind} (h : E.get x = some (.int kd (k : Int))) : bnd E (some x) d k := ⟨kd, h⟩
theorem bnd_none {E : Env} {d : Nat} : bnd E none d d := rfl
theorem bytes_ok {a b : Nat} (h : Nat.ble b 4096 = true) (h2 : a * 4096 ≤ 140737488355328) : a * b ≤ 140737488355328 :=
  Nat.le_trans (Nat.mul_le_mul_left _ (Nat.le_of_ble_eq_true h)) h2
end Go.Sl.Tz
