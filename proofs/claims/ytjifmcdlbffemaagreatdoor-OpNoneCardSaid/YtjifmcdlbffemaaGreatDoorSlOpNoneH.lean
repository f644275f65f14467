/-
  The law OpNone answers true for every layout and every acts, and what came in reads as it did; the table of bits.Len64 is tied to the program's text.
-/
import Derived.Test.YtjifmcdlbffemaaGreatDoorRows
import Derived.ProofKit
import Derived.LaidMore
import Derived.OpenShut
import Derived.Stop.Joined
import Derived.Carry
import Derived.OpenVars
import Derived.Test.YtjifmcdlbffemaaGreatDoorCards
import Derived.Test.YtjifmcdlbffemaaGreatDoorTie
import Derived.SevenTiedAt
import Derived.Lib.SmallJoins
import Derived.Test.YtjifmcdlbffemaaGreatDoorSlOpNoneA
import Derived.Test.YtjifmcdlbffemaaGreatDoorSlOpNoneB
import Derived.Test.YtjifmcdlbffemaaGreatDoorSlOpNoneC
import Derived.Test.YtjifmcdlbffemaaGreatDoorSlOpNoneD
import Derived.Test.YtjifmcdlbffemaaGreatDoorSlOpNoneE
import Derived.Test.YtjifmcdlbffemaaGreatDoorSlOpNoneF
import Derived.Test.YtjifmcdlbffemaaGreatDoorSlOpNoneG
set_option linter.unusedVariables false
set_option linter.unusedSimpArgs false

/-
  Package evac where no region is under evacuation: New, touch, Make, Get.
-/
namespace Go.Sl.Tz
open Go Go.Proofs Go.Sl
set_option maxRecDepth 100000

abbrev nilP : Value := .pointer none
abbrev evC0 (c : Nat) : List Value := [pv c, iv 0, nilP, nilP]
def optH (o : Option (Nat × Nat × CellP)) : Option Nat := o.map (·.1)
theorem evNew_fn (S : Hp) (ch w sl : Int) : FNs S prog F_evac_New #[iv ch, iv w, iv sl] [] (fun o : Option (Nat × Nat × CellP) => .tuple #[optP (optH o), iv (optE 3 (optH o))]) (fun o => o.isSome = true ↔ newOK ch w sl)
    (fun o => match o with | none => [] | some (h, c, P) => [cel h T_evac_Heap (evC0 c), Cells c P (cell0 ch w sl)]) := by
  refine FNs_of_body func_evac_New rfl ntmps_evac_New rfl (fun R w0 => TM_start ?_)
  refine TM_ops 11 tys_of rfl (TOp_calls rfl rfl cl_cell_New (cellNew_fn _ _ _ _) fun y14 h14 => ?_)
  rcases y14 with _ | ⟨c, P⟩ <;> simp only [optC, optE, optP, Option.isSome_none, Option.isSome_some, Option.map_none, Option.map_some, Bool.false_eq_true, ↓reduceIte, true_iff, false_iff] at h14 ⊢
  · refine TM_run 24 tys_of rfl ?_
    refine TN_rets tys_of none (.inl rfl) rfl (rs := [.tmp 6, .tmp 7]) rfl (vs := [_, _]) ⟨rfl, rfl, trivial⟩ rfl ⟨nofun, fun h => absurd h h14⟩
  · refine TM_ops 21 tys_of rfl (TOp_box rfl rfl rfl fun b22 => ?_)
    refine TM_run 5 tys_of rfl ?_
    refine TN.as b22 (cel b22 T_evac_Heap (evC0 c)) rfl ?_
    refine TN_rets tys_of (some (b22, c, P)) (.inl rfl) rfl (rs := [.tmp 6, .tmp 7]) rfl (vs := [_, _]) ⟨rfl, rfl, trivial⟩ rfl ⟨fun _ => h14, fun _ => rfl⟩
theorem touch0_fn (S : Hp) (h c : Nat) (P : CellP) (κ : CellM) (t : Int × Int) : FNs S prog F_evac_Heap_touch #[pv h, tokV t] [cel h T_evac_Heap (evC0 c), Cells c P κ]
    (fun _ : Unit => .tuple #[]) (fun _ => True) (fun _ => [cel h T_evac_Heap (evC0 c), Cells c P κ]) := by
  refine FNs_of_body func_evac_Heap_touch rfl ntmps_evac_Heap_touch rfl (fun R w0 => TM_start ?_)
  refine TN.open (Cells c P κ) rfl fun _ _ => ?_
  refine TM_ops 2 tys_of rfl (TOp_box rfl rfl rfl fun b3 => ?_)
  refine TM_run 3 tys_of rfl ?_
  refine TM_draw (by kernel_rfl) (sep [cel b3 69 (cellsL (tokV t, 0 + 1).fst), cel c T_cell_Cells (cellC P), cel h T_evac_Heap (evC0 c)]) 15 ?_
  refine TA_reads (fuel := 7) [0, 1, 2, 3, 4, 5, 6, 7] rfl (fun _ _ _ h => h) (by decide +kernel) (by decide +kernel) (by decide +kernel) (by decide +kernel) ent_takes ?_
  refine TR_puresN 3 tys_of rfl (TR_exact rfl (Ex_load tys_of rfl rfl rfl keep_find rfl) ?_)
  refine TR_puresN 2 tys_of rfl (TR_exact rfl (Ex_load tys_of rfl rfl rfl keep_find rfl) ?_)
  refine TR_puresN 0 tys_of rfl (TR_exact rfl (Ex_load tys_of rfl rfl rfl keep_find rfl) ?_)
  refine TR_puresN 0 tys_of rfl (TR_done ?_)
  refine TA_have (fuel' := 2) (listed' := #[true, true, true, true, true, true, true, true, true, true, true, true, true, false, false]) (fun y : Unit × Nat => True) (fun y : Unit × Nat => ⟨63, [], [(4, pv y.2), (17, iv (getT κ.tb t).snd), (16, Value.agg #[iv (getT κ.tb t).fst.addr, iv (getT κ.tb t).fst.region, Value.bool (getT κ.tb t).fst.held, Value.bool (getT κ.tb t).fst.pinned]), (3, pv b3), (0, pv h)]⟩) (fun y : Unit × Nat => [cel y.2 98 (cellsL y98.zero), Tbl P.tb κ.tb, cel b3 69 (cellsL (tokV t, 0 + 1).fst), cel c T_cell_Cells (cellC P), Store P.st κ.st, Book P.bk κ.bk, Img P.im P.st P.bk, Tree P.tr κ.tr, Rem P.rm κ.rem, MapOf iv P.spm (spKV P.spf κ.sp), MapOf iv P.mim (miKV P.mif κ.mi), big (spR P.st P.spf) κ.sp, big (miR P.mif) κ.mi, cel h T_evac_Heap (evC0 c)]) ?_ ?_
  rotate_left
  · intro tail
    refine TA_two (fuel := 6) 8 12 (by decide +kernel) ?_ ?_
    · refine TOp_calls rfl rfl cl_table_Table_Get (tableGet_fn _ _ κ.tb _) fun y15 h15 => ?_
      refine TB_low ent_takes ?_
      refine TA_frees (fuel := 3) [9, 10, 11] rfl (fun _ _ _ h => h) (by decide +kernel) ?_
      refine TR_puresN 3 tys_of rfl (TR_done ?_)
      refine TA_one (fuel := 2) 12 (by decide +kernel) (TOp_alloc tys_of rfl rfl rfl fun b4 => ?_)
      refine TB_low ent_takes ?_
      exact TA_use (tail (y15, b4) trivial) (by decide +kernel) (Env.le_of_knows (by repeat constructor))
    · refine TOp_alloc tys_of rfl rfl rfl fun b4 => ?_
      refine TB_low ent_takes ?_
      refine TA_one (fuel := 5) 8 (by decide +kernel) (TOp_calls rfl rfl cl_table_Table_Get (tableGet_fn _ _ κ.tb _) fun y15 h15 => ?_)
      refine TB_low ent_takes ?_
      refine TA_frees (fuel := 2) [9, 10, 11] rfl (fun _ _ _ h => h) (by decide +kernel) ?_
      refine TR_puresN 3 tys_of rfl (TR_done ?_)
      exact TA_use (tail (y15, b4) trivial) (by decide +kernel) (Env.le_of_knows (by repeat constructor))
  rintro ⟨y15, b4⟩ -
  refine TA_one (fuel := 1) 13 (by decide +kernel) (TOp_store tys_of rfl rfl rfl rfl rfl rfl rfl rfl ?_)
  refine TB_low ent_takes ?_
  refine TA_frees (fuel := 0) [14] rfl (fun _ _ _ h => h) (by decide +kernel) ?_
  refine TR_puresN 1 tys_of rfl (TR_done ?_)
  refine TM_drawn ?_ (by decide +kernel)
  refine TM_run 3 tys_of rfl ?_
  refine TM_draw (by kernel_rfl) (sep [cel (y15, b4).snd 98 (setAll (cellsL y98.zero) 0 (cellsL (Value.agg #[iv (getT κ.tb t).fst.addr, iv (getT κ.tb t).fst.region, Value.bool (getT κ.tb t).fst.held, Value.bool (getT κ.tb t).fst.pinned]))), cel b3 69 (cellsL (tokV t, 0 + 1).fst), cel c T_cell_Cells (cellC P), cel h T_evac_Heap (evC0 c)]) 33 ?_
  refine TA_reads (fuel := 3) [0, 1, 2, 3, 4, 5, 6, 7, 8, 9, 10, 11, 12, 13, 14, 15, 16, 17, 18, 19, 20, 21, 22, 23, 24, 25, 26, 27, 28, 29] rfl (fun _ _ _ h => h) (by decide +kernel) (by decide +kernel) (by decide +kernel) (by decide +kernel) ent_takes ?_
  refine TR_puresN 3 tys_of rfl (TR_exact rfl (Ex_load tys_of rfl rfl rfl keep_find rfl) ?_)
  refine TR_puresN 26 tys_of rfl (TR_done ?_)
  refine TA_one (fuel := 2) 30 (by decide +kernel) (TOp_skip rfl rfl rfl ?_)
  refine TB_low ent_takes ?_
  refine TA_frees (fuel := 0) [31, 32] rfl (fun _ _ _ h => h) (by decide +kernel) ?_
  refine TR_puresN 2 tys_of rfl (TR_done ?_)
  refine TM_drawn ?_ (by decide +kernel)
  refine TM_run 4 tys_of rfl ?_
  refine TN.shut (Cells c P κ) rfl () trivial ?_
  refine TN_rets tys_of () (.inl rfl) rfl (rs := []) rfl (vs := []) trivial rfl trivial
theorem evMake0_fn (S : Hp) (hS : Tab S) (h c : Nat) (P : CellP) (κ : CellM) (region id count : Int) (hp : MakePre κ region) : FNs S prog F_evac_Heap_Make #[pv h, iv region, iv id, iv count] [cel h T_evac_Heap (evC0 c), Cells c P κ]
    (fun _ : Unit => .tuple #[tokV (cMakeR κ region id count).1, iv (cMakeR κ region id count).2]) (fun _ => True) (fun _ => [cel h T_evac_Heap (evC0 c), Cells c P (cMakeS κ region id count)]) := by
  refine FNs_of_body func_evac_Heap_Make rfl ntmps_evac_Heap_Make rfl (fun R w0 => TM_start ?_)
  refine TM_ops 2 tys_of rfl (TOp_alloc tys_of rfl rfl rfl fun b8 => ?_)
  refine TM_ops 19 tys_of rfl (TOp_exact rfl (Ex_load tys_of rfl rfl rfl lies_find rfl) ?_)
  refine TM_ops 17 tys_of rfl (TOp_exact rfl (Ex_load tys_of rfl rfl rfl lies_find rfl) ?_)
  refine TM_ops 3 tys_of rfl (TOp_calls rfl rfl cl_cell_Cells_Make (cMake_fn _ (by assumption) _ P κ _ _ _ (by assumption)) fun y36 h36 => ?_)
  refine TM_ops 2 tys_of rfl (TOp_store tys_of rfl rfl rfl rfl rfl rfl rfl rfl ?_)
  refine TM_run 5 tys_of rfl ?_
  refine TN_rets tys_of () (.inl rfl) rfl (rs := [.cell 8 69, .tmp 9]) rfl (vs := [_, _]) ⟨⟨_, _, _, _, _, _, rfl, rfl, lies_find, rfl⟩, rfl, trivial⟩ rfl trivial
theorem evGet0_fn (S : Hp) (h c : Nat) (P : CellP) (κ : CellM) (t : Int × Int) (place : Int) : FNs S prog F_evac_Heap_Get #[pv h, tokV t, iv place] [cel h T_evac_Heap (evC0 c), Cells c P κ]
    (fun _ : Unit => .tuple #[uv (cGetR κ t place).1, iv (cGetR κ t place).2]) (fun _ => True) (fun _ => [cel h T_evac_Heap (evC0 c), Cells c P κ]) := by
  refine FNs_of_body func_evac_Heap_Get rfl ntmps_evac_Heap_Get rfl (fun R w0 => TM_start ?_)
  refine TM_ops 2 tys_of rfl (TOp_box rfl rfl rfl fun b4 => ?_)
  refine TM_ops 17 tys_of rfl (TOp_exact rfl (Ex_load tys_of rfl rfl rfl lies_find rfl) ?_)
  refine TM_ops 0 tys_of rfl (TOp_calls rfl rfl cl_evac_Heap_touch (touch0_fn _ _ c P κ _) fun y12 h12 => ?_)
  refine TM_run 3 tys_of rfl ?_
  refine TM_draw (by kernel_rfl) (sep [cel h T_evac_Heap (evC0 c), cel b4 69 (cellsL (tokV t, 0 + 1).fst)]) 11 ?_
  refine TA_reads (fuel := 5) [0, 1, 2, 3, 4, 5] rfl (fun _ _ _ h => h) (by decide +kernel) (by decide +kernel) (by decide +kernel) (by decide +kernel) ent_takes ?_
  refine TR_puresN 3 tys_of rfl (TR_exact rfl (Ex_load tys_of rfl rfl rfl keep_find rfl) ?_)
  refine TR_puresN 0 tys_of rfl (TR_exact rfl (Ex_load tys_of rfl rfl rfl keep_find rfl) ?_)
  refine TR_puresN 1 tys_of rfl (TR_done ?_)
  refine TA_one (fuel := 4) 6 (by decide +kernel) (TOp_calls rfl rfl cl_cell_Cells_Get (cGet_fn _ _ P κ _ _) fun y19 h19 => ?_)
  refine TB_low ent_takes ?_
  refine TA_frees (fuel := 0) [7, 8, 9, 10] rfl (fun _ _ _ h => h) (by decide +kernel) ?_
  refine TR_puresN 4 tys_of rfl (TR_done ?_)
  refine TM_drawn ?_ (by decide +kernel)
  refine TM_run 2 tys_of rfl ?_
  refine TN_rets tys_of () (.inl rfl) rfl (rs := [.tmp 6, .tmp 7]) rfl (vs := [_, _]) ⟨rfl, rfl, trivial⟩ rfl trivial
end Go.Sl.Tz

/-
  Package op, first part: the table of deeds; act and Do over whatever a deed does.
-/
namespace Go.Sl.Tz
open Go Go.Proofs Go.Sl
set_option maxRecDepth 100000

abbrev dv (n : Int) (g : FuncId) : Value := .agg #[iv n, .func (.func g) #[] #[]]
def deedKV : List (Int × Value) := [(1, dv 3 F_op_Machine_define), (2, dv 1 F_op_Machine_open), (3, dv 3 F_op_Machine_create), (4, dv 3 F_op_Machine_get), (5, dv 4 F_op_Machine_set), (6, dv 3 F_op_Machine_ref), (7, dv 3 F_op_Machine_look),
  (8, dv 5 F_op_Machine_tie), (9, dv 3 F_op_Machine_cut), (10, dv 2 F_op_Machine_drop), (11, dv 3 F_op_Machine_pin), (12, dv 2 F_op_Machine_tell), (13, dv 1 F_op_Machine_free), (14, dv 1 F_op_Machine_merge), (15, dv (-1) F_op_Machine_split),
  (16, dv 1 F_op_Machine_begin), (17, dv 1 F_op_Machine_step), (18, dv 0 F_op_Machine_finish), (19, dv 0 F_op_Machine_abort), (20, dv 0 F_op_Machine_count), (21, dv 1 F_op_Machine_of), (22, dv 1 F_op_Machine_kids)]
theorem deeds_fn (S : Hp) : FNs S prog F_op_deeds #[] [] (fun r : Nat => mv r) (fun _ => True) (fun r => [MapOf iv r deedKV]) := by
  refine FNs_of_body func_op_deeds rfl ntmps_op_deeds rfl (fun R w0 => TM_start ?_)
  refine TM_ops 7 tys_of rfl (TOp_makeMap rfl rfl iv fun r1 => ?_)
  refine TM_ops 1 tys_of rfl (TOp_mapUpdate tys_of rfl (.inr rfl) rfl iv rfl rfl rfl kI ?_)
  refine TM_ops 1 tys_of rfl (TOp_mapUpdate tys_of rfl (.inr rfl) rfl iv rfl rfl rfl kI ?_)
  refine TM_ops 1 tys_of rfl (TOp_mapUpdate tys_of rfl (.inr rfl) rfl iv rfl rfl rfl kI ?_)
  refine TM_ops 1 tys_of rfl (TOp_mapUpdate tys_of rfl (.inr rfl) rfl iv rfl rfl rfl kI ?_)
  refine TM_ops 1 tys_of rfl (TOp_mapUpdate tys_of rfl (.inr rfl) rfl iv rfl rfl rfl kI ?_)
  refine TM_ops 1 tys_of rfl (TOp_mapUpdate tys_of rfl (.inr rfl) rfl iv rfl rfl rfl kI ?_)
  refine TM_ops 1 tys_of rfl (TOp_mapUpdate tys_of rfl (.inr rfl) rfl iv rfl rfl rfl kI ?_)
  refine TM_ops 1 tys_of rfl (TOp_mapUpdate tys_of rfl (.inr rfl) rfl iv rfl rfl rfl kI ?_)
  refine TM_ops 1 tys_of rfl (TOp_mapUpdate tys_of rfl (.inr rfl) rfl iv rfl rfl rfl kI ?_)
  refine TM_ops 1 tys_of rfl (TOp_mapUpdate tys_of rfl (.inr rfl) rfl iv rfl rfl rfl kI ?_)
  refine TM_ops 1 tys_of rfl (TOp_mapUpdate tys_of rfl (.inr rfl) rfl iv rfl rfl rfl kI ?_)
  refine TM_ops 1 tys_of rfl (TOp_mapUpdate tys_of rfl (.inr rfl) rfl iv rfl rfl rfl kI ?_)
  refine TM_ops 1 tys_of rfl (TOp_mapUpdate tys_of rfl (.inr rfl) rfl iv rfl rfl rfl kI ?_)
  refine TM_ops 1 tys_of rfl (TOp_mapUpdate tys_of rfl (.inr rfl) rfl iv rfl rfl rfl kI ?_)
  refine TM_ops 1 tys_of rfl (TOp_mapUpdate tys_of rfl (.inr rfl) rfl iv rfl rfl rfl kI ?_)
  refine TM_ops 1 tys_of rfl (TOp_mapUpdate tys_of rfl (.inr rfl) rfl iv rfl rfl rfl kI ?_)
  refine TM_ops 1 tys_of rfl (TOp_mapUpdate tys_of rfl (.inr rfl) rfl iv rfl rfl rfl kI ?_)
  refine TM_ops 1 tys_of rfl (TOp_mapUpdate tys_of rfl (.inr rfl) rfl iv rfl rfl rfl kI ?_)
  refine TM_ops 1 tys_of rfl (TOp_mapUpdate tys_of rfl (.inr rfl) rfl iv rfl rfl rfl kI ?_)
  refine TM_ops 1 tys_of rfl (TOp_mapUpdate tys_of rfl (.inr rfl) rfl iv rfl rfl rfl kI ?_)
  refine TM_ops 1 tys_of rfl (TOp_mapUpdate tys_of rfl (.inr rfl) rfl iv rfl rfl rfl kI ?_)
  refine TM_ops 1 tys_of rfl (TOp_mapUpdate tys_of rfl (.inr rfl) rfl iv rfl rfl rfl kI ?_)
  refine TM_run 5 tys_of rfl ?_
  refine TN.mapAs iv r1 deedKV rfl ?_
  refine TN_rets tys_of r1 (.inl rfl) rfl (rs := [.tmp 0]) rfl (vs := [_]) ⟨rfl, trivial⟩ rfl trivial
/-- Whether so many arguments are of the form. -/
def formN (n : Int) (k : Nat) : Bool := if n ≥ 0 then (k : Int) == n else k % 2 != 0
theorem act_fn (S : Hp) (m : Nat) (s : Slc) (code : Int) (rest : List Int) (hr : RORow S s (code :: rest)) (hlen : rest.length < 2 ^ 62) (n : Int) (g : FuncId) (hd : lookK deedKV code = some (dv n g)) (hf : formN n rest.length = true) (hcl : Callable prog g)
    {A : HProp} {ι : Type} (r : ι → Slc) (e : ι → Int) (φ : ι → Prop) (Lq : ι → List HProp) (hdo : FNs S prog g #[pv m, (dropS s 1).val] [A] (fun x => .tuple #[(r x).val, iv (e x)]) φ Lq) :
    FNs S prog F_op_Machine_act #[pv m, s.val] [A] (fun x => .tuple #[(r x).val, iv (e x)]) φ Lq := by
  refine FNs_of_body func_op_Machine_act rfl ntmps_op_Machine_act rfl (fun R w0 => TM_start ?_)
  obtain ⟨ga, pre, sp, ha, hS⟩ := hr.lies (by simp)
  have hn : s.n = rest.length + 1 := by simpa using hr.n
  have hcap := hr.cap
  unfold formN at hf
  refine TM_run 14 tys_of rfl ?_
  refine TM_eq (t := 11) rfl (fun h => by first | omega | contradiction | (simp at h; done)) (fun h11 => ?_)
  refine TM_run 4 tys_of rfl ?_
  refine TM_draw (by kernel_rfl) (sep []) 11 ?_
  refine TA_reads (fuel := 8) [1, 2, 3] rfl (fun _ _ _ h => h) (by decide +kernel) (by decide +kernel) (by decide +kernel) (by decide +kernel) ent_takes ?_
  refine TR_puresN 1 tys_of rfl (TR_exact rfl (Ex_indexS (sz := 1) (m := 0) tys_of rfl rfl ha rfl rfl rfl (by omega)) ?_)
  refine TR_puresN 0 tys_of rfl (TR_exact rfl (Ex_load tys_of rfl rfl rfl (lies_read hS) (loadL_row (loadL_one rfl (v := iv code) rfl))) ?_)
  refine TR_puresN 0 tys_of rfl (TR_done ?_)
  refine TA_have (fuel' := 2) (listed' := #[true, true, true, true, true, true, true, true, true, false, false]) (fun y : Nat × Nat => True) (fun y : Nat × Nat => ⟨51, [], [(6, pv y.2), (19, Value.bool (some (dv n g)).isSome), (18, Value.agg #[iv n, Value.func (Fn.func g) #[] #[]]), (5, iv 0), (4, Value.slice none 0 0), (0, pv m), (1, Value.slice s.a s.n s.cap)]⟩) (fun y : Nat × Nat => [cel y.2 106 (cellsL y106.zero), MapOf iv y.1 deedKV, A]) ?_ ?_
  rotate_left
  · intro tail
    refine TA_two (fuel := 7) 0 8 (by decide +kernel) ?_ ?_
    · refine TOp_calls rfl rfl cl_op_deeds (deeds_fn _) fun y13 h13 => ?_
      refine TB_low ent_takes ?_
      refine TA_two (fuel := 6) 4 8 (by decide +kernel) ?_ ?_
      · refine TOp_lookup tys_of rfl rfl rfl iv rfl rfl rfl kI ?_
        rw [hd]
        refine TB_low ent_takes ?_
        refine TA_frees (fuel := 3) [5, 6, 7] rfl (fun _ _ _ h => h) (by decide +kernel) ?_
        refine TR_puresN 3 tys_of rfl (TR_done ?_)
        refine TA_one (fuel := 2) 8 (by decide +kernel) (TOp_alloc tys_of rfl rfl rfl fun b6 => ?_)
        refine TB_low ent_takes ?_
        exact TA_use (tail (y13, b6) trivial) (by decide +kernel) (Env.le_of_knows (by repeat constructor))
      · refine TOp_alloc tys_of rfl rfl rfl fun b6 => ?_
        refine TB_low ent_takes ?_
        refine TA_one (fuel := 5) 4 (by decide +kernel) (TOp_lookup tys_of rfl rfl rfl iv rfl rfl rfl kI ?_)
        rw [hd]
        refine TB_low ent_takes ?_
        refine TA_frees (fuel := 2) [5, 6, 7] rfl (fun _ _ _ h => h) (by decide +kernel) ?_
        refine TR_puresN 3 tys_of rfl (TR_done ?_)
        exact TA_use (tail (y13, b6) trivial) (by decide +kernel) (Env.le_of_knows (by repeat constructor))
    · refine TOp_alloc tys_of rfl rfl rfl fun b6 => ?_
      refine TB_low ent_takes ?_
      refine TA_one (fuel := 6) 0 (by decide +kernel) (TOp_calls rfl rfl cl_op_deeds (deeds_fn _) fun y13 h13 => ?_)
      refine TB_low ent_takes ?_
      refine TA_one (fuel := 5) 4 (by decide +kernel) (TOp_lookup tys_of rfl rfl rfl iv rfl rfl rfl kI ?_)
      rw [hd]
      refine TB_low ent_takes ?_
      refine TA_frees (fuel := 2) [5, 6, 7] rfl (fun _ _ _ h => h) (by decide +kernel) ?_
      refine TR_puresN 3 tys_of rfl (TR_done ?_)
      exact TA_use (tail (y13, b6) trivial) (by decide +kernel) (Env.le_of_knows (by repeat constructor))
  rintro ⟨y13, b6⟩ -
  dsimp only
  refine TA_one (fuel := 1) 9 (by decide +kernel) (TOp_store tys_of rfl rfl rfl rfl rfl rfl rfl rfl ?_)
  refine TB_low ent_takes ?_
  refine TA_frees (fuel := 0) [10] rfl (fun _ _ _ h => h) (by decide +kernel) ?_
  refine TR_puresN 1 tys_of rfl (TR_done ?_)
  refine TM_drawn ?_ (by decide +kernel)
  refine TM_ops 4 tys_of rfl (TOp_exact rfl (Ex_slice tys_of rfl rfl (bnd_some (k := 1) rfl) bnd_none bnd_none (by simp) rfl rfl (by omega) (by omega) (by omega)) ?_)
  refine TM_ops 17 tys_of rfl (TOp_exact rfl (Ex_load tys_of rfl rfl rfl lies_find rfl) ?_)
  refine TM_run 2 tys_of rfl ?_
  refine TM_dec (t := 28) rfl (fun h28 => ?_) (fun h28 => ?_)
  · rw [if_pos h28] at hf
    simp only [beq_iff_eq] at hf
    refine TM_ops 3 tys_of rfl (TOp_exact rfl (Ex_load tys_of rfl rfl rfl lies_find rfl) ?_)
    refine TM_run 5 tys_of rfl ?_
    refine TM_ne (t := 22) rfl (fun h => by first | omega | contradiction | (simp at h; done)) (fun h22 => ?_)
    refine TM_ops 3 tys_of rfl (TOp_exact rfl (Ex_load tys_of rfl rfl rfl lies_find rfl) ?_)
    refine TM_run 2 tys_of rfl ?_
    refine TM_dec (t := 38) rfl (fun h => by first | omega | contradiction | (simp at h; done)) (fun h38 => ?_)
    refine TM_ops 15 tys_of rfl (TOp_exact rfl (Ex_load tys_of rfl rfl rfl lies_find rfl) ?_)
    refine TM_ops 2 tys_of rfl (TOp_calls rfl rfl hcl hdo fun y48 h48 => ?_)
    refine TM_run 7 tys_of rfl ?_
    refine TN_rets tys_of y48 (.inl rfl) rfl (rs := [.tmp 4, .tmp 5]) rfl (vs := [_, _]) ⟨rfl, rfl, trivial⟩ rfl h48
  · rw [if_neg h28] at hf
    simp only [bne_iff_ne, ne_eq] at hf
    refine TM_ops 12 tys_of rfl (TOp_exact rfl (Ex_load tys_of rfl rfl rfl lies_find rfl) ?_)
    refine TM_run 2 tys_of rfl ?_
    refine TM_dec (t := 38) rfl (fun h38 => ?_) (fun h => by first | omega | contradiction | (simp at h; done))
    refine TM_run 3 tys_of rfl ?_
    rw [show ((s.n - 1 : Nat) : Int).tmod (Int.ofNat (1 + 1)) = (((s.n - 1) % 2 : Nat) : Int) from rfl]
    refine TM_run 5 tys_of rfl ?_
    refine TM_eq (t := 22) rfl (fun h => by first | omega | contradiction | (simp at h; done)) (fun h22 => ?_)
    refine TM_ops 7 tys_of rfl (TOp_exact rfl (Ex_load tys_of rfl rfl rfl lies_find rfl) ?_)
    refine TM_ops 2 tys_of rfl (TOp_calls rfl rfl hcl hdo fun y48 h48 => ?_)
    refine TM_run 7 tys_of rfl ?_
    refine TN_rets tys_of y48 (.inl rfl) rfl (rs := [.tmp 4, .tmp 5]) rfl (vs := [_, _]) ⟨rfl, rfl, trivial⟩ rfl h48
/-- An answer's numbers. -/
def ansL (e : Int) (l : List Int) : List Int := if e ≠ 0 then [e] else 0 :: l
theorem do_fn (S : Hp) (m : Nat) (s : Slc) {A : HProp} {ι : Type} (r : ι → Slc) (l : ι → List Int) (e : ι → Int) (φ : ι → Prop) (M : ι → HProp) (hb : ∀ x, φ x → (l x).length < 2 ^ 31)
    (hact : FNs S prog F_op_Machine_act #[pv m, s.val] [A] (fun x => .tuple #[(r x).val, iv (e x)]) φ (fun x => [Row (r x) T_int 1 ((l x).map iv), M x])) :
    FNs S prog F_op_Machine_Do #[pv m, s.val] [A] (fun y : ι × Slc => y.2.val) (fun y => φ y.1) (fun y => [Row y.2 T_int 1 ((ansL (e y.1) (l y.1)).map iv), M y.1]) := by
  refine FNs_of_body func_op_Machine_Do rfl ntmps_op_Machine_Do rfl (fun R w0 => TM_start ?_)
  refine TM_ops 19 tys_of rfl (TOp_calls rfl rfl cl_op_Machine_act hact fun y13 h13 => ?_)
  refine TM_run 14 tys_of rfl ?_
  refine TM_ne (t := 17) rfl (fun h17 => ?_) (fun h17 => ?_)
  · refine TM_ops 4 tys_of rfl (TOp_buildSliceC tys_of rfl rfl rfl rfl rfl rfl rfl rfl fun b19 => ?_)
    refine TN.rownew b19 1 1 ([e y13].map iv) rfl rfl rfl ?_
    refine TM_run 5 tys_of rfl ?_
    rw [show [e y13] = ansL (e y13) (l y13) from (if_pos h17).symm]
    refine TN_rets tys_of (y13, ⟨some ⟨b19, 0, none⟩, 1, 1⟩) (.inl rfl) rfl (rs := [.tmp 4]) rfl (vs := [_]) ⟨rfl, trivial⟩ rfl h13
  · refine TM_ops 5 tys_of rfl (TOp_buildSliceC tys_of rfl rfl rfl rfl rfl rfl rfl rfl fun b20 => ?_)
    refine TN.rownew b20 1 1 (([0] : List Int).map iv) rfl rfl rfl ?_
    refine TN.rowinfo (r y13) fun hr hrc => ?_
    rw [List.length_map] at hr
    have hl := hb y13 h13
    refine TM_ops 1 tys_of rfl (TOp_append (s := ⟨some ⟨b20, 0, none⟩, 1, 1⟩) (r := r y13) tys_of rfl rfl rfl rfl rfl rfl rfl rfl rfl rfl (by rfl) (bytes_ok rfl (by dsimp only; omega)) fun s22 hs22 => ?_)
    refine TM_run 4 tys_of rfl ?_
    refine TN.rowsame s22 (xs' := (ansL (e y13) (l y13)).map iv) (by unfold ansL; rw [if_neg (by simpa using h17)]; simp) ?_
    refine TN_rets tys_of (y13, s22) (.inl rfl) rfl (rs := [.tmp 4]) rfl (vs := [_]) ⟨rfl, trivial⟩ rfl h13
end Go.Sl.Tz

/-
  Package op where no region is under evacuation: New, define, open, create, get; what isn't of the form.
-/
namespace Go.Sl.Tz
open Go Go.Proofs Go.Sl
set_option maxRecDepth 100000

def Mach0 (m : Nat) (κ : CellM) : HProp := Pack (fun _ : Nat × Nat × CellP => True) (fun x => [cel m T_op_Machine [pv x.1], cel x.1 T_evac_Heap (evC0 x.2.1), Cells x.2.1 x.2.2 κ])
theorem opNew_fn (S : Hp) (ch w sl : Int) : FNs S prog F_op_New #[iv ch, iv w, iv sl] [] (fun o : Option Nat => .tuple #[optP o, iv (optE 3 o)]) (fun o => o.isSome = true ↔ newOK ch w sl)
    (fun o => match o with | none => [] | some m => [Mach0 m (cell0 ch w sl)]) := by
  refine FNs_of_body func_op_New rfl ntmps_op_New rfl (fun R w0 => TM_start ?_)
  refine TM_ops 11 tys_of rfl (TOp_calls rfl rfl cl_evac_New (evNew_fn _ _ _ _) fun y14 h14 => ?_)
  rcases y14 with _ | ⟨h, c, P⟩ <;> simp only [optH, optE, optP, Option.isSome_none, Option.isSome_some, Option.map_none, Option.map_some, Bool.false_eq_true, ↓reduceIte, true_iff, false_iff] at h14 ⊢
  · refine TM_run 24 tys_of rfl ?_
    refine TN_rets tys_of none (.inl rfl) rfl (rs := [.tmp 6, .tmp 7]) rfl (vs := [_, _]) ⟨rfl, rfl, trivial⟩ rfl ⟨nofun, fun h => absurd h h14⟩
  · refine TM_ops 21 tys_of rfl (TOp_box rfl rfl rfl fun b22 => ?_)
    refine TM_run 5 tys_of rfl ?_
    refine TN.as b22 (cel b22 T_op_Machine [pv (h, c, P).fst]) rfl ?_
    refine TN.shut (Mach0 b22 (cell0 ch w sl)) rfl (h, c, P) trivial ?_
    refine TN_rets tys_of (some b22) (.inl rfl) rfl (rs := [.tmp 6, .tmp 7]) rfl (vs := [_, _]) ⟨rfl, rfl, trivial⟩ rfl ⟨fun _ => h14, fun _ => rfl⟩
theorem tok_fn (S : Hp) (s : Slc) (a b : Int) (r : List Int) (hr : RORow S s (a :: b :: r)) : FNs S prog F_op_tok #[s.val] [] (fun _ : Unit => tokV (a, b)) (fun _ => True) (fun _ => []) := by
  refine FNs_of_body func_op_tok rfl ntmps_op_tok rfl (fun R w0 => TM_start ?_)
  obtain ⟨ga, pre, sp, ha, hS⟩ := hr.lies (by simp)
  have hn : s.n = r.length + 2 := by simpa using hr.n
  refine TM_ops 2 tys_of rfl (TOp_alloc tys_of rfl rfl rfl fun b2 => ?_)
  refine TM_run 3 tys_of rfl ?_
  refine TM_draw (by kernel_rfl) (sep []) 8 ?_
  refine TA_reads (fuel := 1) [0, 1, 2, 3, 4, 5, 6] rfl (fun _ _ _ h => h) (by decide +kernel) (by decide +kernel) (by decide +kernel) (by decide +kernel) ent_takes ?_
  refine TR_puresN 1 tys_of rfl (TR_exact rfl (Ex_indexS (sz := 1) (m := 0) tys_of rfl rfl ha rfl rfl rfl (by omega)) ?_)
  refine TR_puresN 0 tys_of rfl (TR_exact rfl (Ex_load tys_of rfl rfl rfl (lies_read hS) (loadL_row (loadL_one rfl (v := iv a) rfl))) ?_)
  refine TR_puresN 1 tys_of rfl (TR_exact rfl (Ex_indexS (sz := 1) (m := 1) tys_of rfl rfl ha rfl rfl rfl (by omega)) ?_)
  refine TR_puresN 0 tys_of rfl (TR_exact rfl (Ex_load tys_of rfl rfl rfl (lies_read hS) (loadL_row (loadL_one rfl (v := iv b) rfl))) ?_)
  refine TR_puresN 1 tys_of rfl (TR_done ?_)
  refine TA_one (fuel := 0) 7 (by decide +kernel) (TOp_store tys_of rfl rfl rfl rfl rfl rfl rfl rfl ?_)
  refine TB_low ent_takes ?_
  refine TM_drawn ?_ (by decide +kernel)
  refine TM_run 2 tys_of rfl ?_
  refine TN_rets tys_of () (.inl rfl) rfl (rs := [.cell 2 69]) rfl (vs := [_]) ⟨⟨_, _, _, _, _, _, rfl, rfl, lies_find, rfl⟩, trivial⟩ rfl trivial
def u64 (x : Int) : Nat := (IntKind.u64.wrap x).toNat
theorem u64_wrap (x : Int) : IntKind.u64.wrap x = ((u64 x : Nat) : Int) := by unfold u64; rw [IntKind.wrap_u64]; omega
theorem u64_lt (x : Int) : u64 x < 2 ^ 64 := by unfold u64; rw [IntKind.wrap_u64]; omega
theorem opDefine_fn (S : Hp) (hS : Tab S) (m : Nat) (κ : CellM) (s : Slc) (a b d : Int) (hr : RORow S s [a, b, d]) : FNs S prog F_op_Machine_define #[pv m, s.val] [Mach0 m κ]
    (fun r : Slc => .tuple #[r.val, iv (defineR κ [u64 a, u64 b, u64 d]).2]) (fun _ => True) (fun r => [Row r T_int 1 ([(defineR κ [u64 a, u64 b, u64 d]).1].map iv), Mach0 m (defineS κ [u64 a, u64 b, u64 d])]) := by
  refine FNs_of_body func_op_Machine_define rfl ntmps_op_Machine_define rfl (fun R w0 => TM_start ?_)
  obtain ⟨ga, pre, sp, ha, hSg⟩ := hr.lies (by simp)
  have hn : s.n = 3 := by simpa using hr.n
  refine TN.open (Mach0 m κ) rfl fun ⟨h, c, P⟩ _ => ?_
  dsimp only
  refine TM_run 7 tys_of rfl ?_
  refine TM_draw (by kernel_rfl) (sep [cel m T_op_Machine [pv h], cel h T_evac_Heap (evC0 c)]) 26 ?_
  refine TA_reads (fuel := 7) [0, 1, 2, 3, 4, 5, 6, 7, 8, 9, 10, 11, 12, 13, 14, 15, 16, 17, 18] rfl (fun _ _ _ h => h) (by decide +kernel) (by decide +kernel) (by decide +kernel) (by decide +kernel) ent_takes ?_
  refine TR_puresN 3 tys_of rfl (TR_exact rfl (Ex_load tys_of rfl rfl rfl keep_find rfl) ?_)
  refine TR_puresN 2 tys_of rfl (TR_exact rfl (Ex_load tys_of rfl rfl rfl keep_find rfl) ?_)
  refine TR_puresN 1 tys_of rfl (TR_exact rfl (Ex_indexS (sz := 1) (m := 0) tys_of rfl rfl ha rfl rfl rfl (by omega)) ?_)
  refine TR_puresN 0 tys_of rfl (TR_exact rfl (Ex_load tys_of rfl rfl rfl (lies_read hSg) (loadL_row (loadL_one rfl (v := iv a) rfl))) ?_)
  refine TR_puresN 1 tys_of rfl ?_
  rw [u64_wrap]
  refine TR_puresN 1 tys_of rfl (TR_exact rfl (Ex_indexS (sz := 1) (m := 1) tys_of rfl rfl ha rfl rfl rfl (by omega)) ?_)
  refine TR_puresN 0 tys_of rfl (TR_exact rfl (Ex_load tys_of rfl rfl rfl (lies_read hSg) (loadL_row (loadL_one rfl (v := iv b) rfl))) ?_)
  refine TR_puresN 1 tys_of rfl ?_
  rw [u64_wrap]
  refine TR_puresN 1 tys_of rfl (TR_exact rfl (Ex_indexS (sz := 1) (m := 2) tys_of rfl rfl ha rfl rfl rfl (by omega)) ?_)
  refine TR_puresN 0 tys_of rfl (TR_exact rfl (Ex_load tys_of rfl rfl rfl (lies_read hSg) (loadL_row (loadL_one rfl (v := iv d) rfl))) ?_)
  refine TR_puresN 1 tys_of rfl ?_
  rw [u64_wrap]
  refine TR_puresN 0 tys_of rfl (TR_done ?_)
  refine TA_one (fuel := 6) 19 (by decide +kernel) (TOp_buildSliceC tys_of rfl rfl rfl rfl rfl rfl rfl rfl fun b28 => ?_)
  refine TN.rownew b28 3 1 ([u64 a, u64 b, u64 d].map uv) rfl rfl rfl ?_
  refine TB_low ent_takes ?_
  refine TA_one (fuel := 5) 20 (by decide +kernel) (TOp_calls rfl rfl cl_cell_Cells_Define (define_fn _ hS c P κ ⟨some ⟨b28, 0, none⟩, 3, 3⟩ [u64 a, u64 b, u64 d] (by intro x hx; simp at hx; rcases hx with rfl | rfl | rfl <;> exact u64_lt _)) fun y29 h29 => ?_)
  refine TB_low ent_takes ?_
  refine TA_frees (fuel := 0) [21, 22, 23, 24, 25] rfl (fun _ _ _ h => h) (by decide +kernel) ?_
  refine TR_puresN 5 tys_of rfl (TR_done ?_)
  refine TM_drawn ?_ (by decide +kernel)
  refine TM_ops 4 tys_of rfl (TOp_buildSliceC tys_of rfl rfl rfl rfl rfl rfl rfl rfl fun b33 => ?_)
  refine TN.rownew b33 1 1 ([(defineR κ [u64 a, u64 b, u64 d]).1].map iv) rfl rfl rfl ?_
  refine TM_run 6 tys_of rfl ?_
  refine TN.shut (Mach0 m (defineS κ [u64 a, u64 b, u64 d])) rfl (h, c, P) trivial ?_
  refine TN_rets tys_of ⟨some ⟨b33, 0, none⟩, 1, 1⟩ (.inl rfl) rfl (rs := [.tmp 4, .tmp 5]) rfl (vs := [_, _]) ⟨rfl, rfl, trivial⟩ rfl trivial
theorem opOpen_fn (S : Hp) (m : Nat) (κ : CellM) (hp : OpenPre κ) (s : Slc) (a : Int) (hr : RORow S s [a]) : FNs S prog F_op_Machine_open #[pv m, s.val] [Mach0 m κ]
    (fun r : Slc => .tuple #[r.val, iv (openR κ a).2]) (fun _ => True) (fun r => [Row r T_int 1 ([(openR κ a).1].map iv), Mach0 m (openS κ a)]) := by
  refine FNs_of_body func_op_Machine_open rfl ntmps_op_Machine_open rfl (fun R w0 => TM_start ?_)
  obtain ⟨ga, pre, sp, ha, hSg⟩ := hr.lies (by simp)
  have hn : s.n = 1 := by simpa using hr.n
  refine TN.open (Mach0 m κ) rfl fun ⟨h, c, P⟩ _ => ?_
  dsimp only
  refine TM_run 7 tys_of rfl ?_
  refine TM_draw (by kernel_rfl) (sep [cel m T_op_Machine [pv h], cel h T_evac_Heap (evC0 c)]) 16 ?_
  refine TA_reads (fuel := 6) [0, 1, 2, 3, 4, 5, 6, 7, 8, 9] rfl (fun _ _ _ h => h) (by decide +kernel) (by decide +kernel) (by decide +kernel) (by decide +kernel) ent_takes ?_
  refine TR_puresN 3 tys_of rfl (TR_exact rfl (Ex_load tys_of rfl rfl rfl keep_find rfl) ?_)
  refine TR_puresN 2 tys_of rfl (TR_exact rfl (Ex_load tys_of rfl rfl rfl keep_find rfl) ?_)
  refine TR_puresN 1 tys_of rfl (TR_exact rfl (Ex_indexS (sz := 1) (m := 0) tys_of rfl rfl ha rfl rfl rfl (by omega)) ?_)
  refine TR_puresN 0 tys_of rfl (TR_exact rfl (Ex_load tys_of rfl rfl rfl (lies_read hSg) (loadL_row (loadL_one rfl (v := iv a) rfl))) ?_)
  refine TR_puresN 0 tys_of rfl (TR_done ?_)
  refine TA_one (fuel := 5) 10 (by decide +kernel) (TOp_calls rfl rfl cl_cell_Cells_Open (open_fn _ _ P κ (by assumption) _) fun y19 h19 => ?_)
  refine TB_low ent_takes ?_
  refine TA_frees (fuel := 0) [11, 12, 13, 14, 15] rfl (fun _ _ _ h => h) (by decide +kernel) ?_
  refine TR_puresN 5 tys_of rfl (TR_done ?_)
  refine TM_drawn ?_ (by decide +kernel)
  refine TM_ops 4 tys_of rfl (TOp_buildSliceC tys_of rfl rfl rfl rfl rfl rfl rfl rfl fun b23 => ?_)
  refine TN.rownew b23 1 1 ([(openR κ a).1].map iv) rfl rfl rfl ?_
  refine TM_run 6 tys_of rfl ?_
  refine TN.shut (Mach0 m (openS κ a)) rfl (h, c, y19) trivial ?_
  refine TN_rets tys_of ⟨some ⟨b23, 0, none⟩, 1, 1⟩ (.inl rfl) rfl (rs := [.tmp 4, .tmp 5]) rfl (vs := [_, _]) ⟨rfl, rfl, trivial⟩ rfl trivial
theorem opCreate0_fn (S : Hp) (hS : Tab S) (m : Nat) (κ : CellM) (s : Slc) (a b d : Int) (hp : MakePre κ a) (hr : RORow S s [a, b, d]) : FNs S prog F_op_Machine_create #[pv m, s.val] [Mach0 m κ]
    (fun r : Slc => .tuple #[r.val, iv (cMakeR κ a b d).2]) (fun _ => True) (fun r => [Row r T_int 1 ([(cMakeR κ a b d).1.1, (cMakeR κ a b d).1.2].map iv), Mach0 m (cMakeS κ a b d)]) := by
  refine FNs_of_body func_op_Machine_create rfl ntmps_op_Machine_create rfl (fun R w0 => TM_start ?_)
  obtain ⟨ga, pre, sp, ha, hSg⟩ := hr.lies (by simp)
  have hn : s.n = 3 := by simpa using hr.n
  refine TN.open (Mach0 m κ) rfl fun ⟨h, c, P⟩ _ => ?_
  dsimp only
  refine TM_run 7 tys_of rfl ?_
  refine TM_draw (by kernel_rfl) (sep [cel m T_op_Machine [pv h], cel h T_evac_Heap (evC0 c)]) 20 ?_
  refine TA_reads (fuel := 7) [0, 1, 2, 3, 4, 5, 6, 7, 8, 9, 10, 11, 12] rfl (fun _ _ _ h => h) (by decide +kernel) (by decide +kernel) (by decide +kernel) (by decide +kernel) ent_takes ?_
  refine TR_puresN 3 tys_of rfl (TR_exact rfl (Ex_load tys_of rfl rfl rfl keep_find rfl) ?_)
  refine TR_puresN 1 tys_of rfl (TR_exact rfl (Ex_indexS (sz := 1) (m := 0) tys_of rfl rfl ha rfl rfl rfl (by omega)) ?_)
  refine TR_puresN 0 tys_of rfl (TR_exact rfl (Ex_load tys_of rfl rfl rfl (lies_read hSg) (loadL_row (loadL_one rfl (v := iv a) rfl))) ?_)
  refine TR_puresN 1 tys_of rfl (TR_exact rfl (Ex_indexS (sz := 1) (m := 1) tys_of rfl rfl ha rfl rfl rfl (by omega)) ?_)
  refine TR_puresN 0 tys_of rfl (TR_exact rfl (Ex_load tys_of rfl rfl rfl (lies_read hSg) (loadL_row (loadL_one rfl (v := iv b) rfl))) ?_)
  refine TR_puresN 1 tys_of rfl (TR_exact rfl (Ex_indexS (sz := 1) (m := 2) tys_of rfl rfl ha rfl rfl rfl (by omega)) ?_)
  refine TR_puresN 0 tys_of rfl (TR_exact rfl (Ex_load tys_of rfl rfl rfl (lies_read hSg) (loadL_row (loadL_one rfl (v := iv d) rfl))) ?_)
  refine TR_puresN 0 tys_of rfl (TR_done ?_)
  refine TA_have (fuel' := 2) (listed' := #[true, true, true, true, true, true, true, true, true, true, true, true, true, true, true, true, true, true, false, false]) (fun y : Unit × Nat => True) (fun y : Unit × Nat => ⟨31, [], [(6, pv y.2), (24, iv (cMakeR κ a b d).snd), (23, Value.agg #[iv (cMakeR κ a b d).fst.fst, iv (cMakeR κ a b d).fst.snd]), (5, iv 0), (4, Value.slice none 0 0)]⟩) (fun y : Unit × Nat => [cel y.2 69 (cellsL y69.zero), cel h T_evac_Heap (evC0 c), Cells c P (cMakeS κ a b d), cel m T_op_Machine [pv h]]) ?_ ?_
  rotate_left
  · intro tail
    refine TA_two (fuel := 6) 13 17 (by decide +kernel) ?_ ?_
    · refine TOp_calls rfl rfl cl_evac_Heap_Make (evMake0_fn _ (by assumption) _ c P κ _ _ _ (by assumption)) fun y22 h22 => ?_
      refine TB_low ent_takes ?_
      refine TA_frees (fuel := 3) [14, 15, 16] rfl (fun _ _ _ h => h) (by decide +kernel) ?_
      refine TR_puresN 3 tys_of rfl (TR_done ?_)
      refine TA_one (fuel := 2) 17 (by decide +kernel) (TOp_alloc tys_of rfl rfl rfl fun b6 => ?_)
      refine TB_low ent_takes ?_
      exact TA_use (tail (y22, b6) trivial) (by decide +kernel) (Env.le_of_knows (by repeat constructor))
    · refine TOp_alloc tys_of rfl rfl rfl fun b6 => ?_
      refine TB_low ent_takes ?_
      refine TA_one (fuel := 5) 13 (by decide +kernel) (TOp_calls rfl rfl cl_evac_Heap_Make (evMake0_fn _ (by assumption) _ c P κ _ _ _ (by assumption)) fun y22 h22 => ?_)
      refine TB_low ent_takes ?_
      refine TA_frees (fuel := 2) [14, 15, 16] rfl (fun _ _ _ h => h) (by decide +kernel) ?_
      refine TR_puresN 3 tys_of rfl (TR_done ?_)
      exact TA_use (tail (y22, b6) trivial) (by decide +kernel) (Env.le_of_knows (by repeat constructor))
  rintro ⟨y22, b6⟩ -
  dsimp only
  refine TA_one (fuel := 1) 18 (by decide +kernel) (TOp_store tys_of rfl rfl rfl rfl rfl rfl rfl rfl ?_)
  refine TB_low ent_takes ?_
  refine TA_frees (fuel := 0) [19] rfl (fun _ _ _ h => h) (by decide +kernel) ?_
  refine TR_puresN 1 tys_of rfl (TR_done ?_)
  refine TM_drawn ?_ (by decide +kernel)
  refine TM_ops 4 tys_of rfl (TOp_exact rfl (Ex_load tys_of rfl rfl rfl lies_find rfl) ?_)
  refine TM_ops 1 tys_of rfl (TOp_exact rfl (Ex_load tys_of rfl rfl rfl lies_find rfl) ?_)
  refine TM_ops 0 tys_of rfl (TOp_buildSliceC tys_of rfl rfl rfl rfl rfl rfl rfl rfl fun b29 => ?_)
  refine TN.rownew b29 2 1 ([(cMakeR κ a b d).1.1, (cMakeR κ a b d).1.2].map iv) rfl rfl rfl ?_
  refine TM_run 6 tys_of rfl ?_
  refine TN.shut (Mach0 m (cMakeS κ a b d)) rfl (h, c, P) trivial ?_
  refine TN_rets tys_of ⟨some ⟨b29, 0, none⟩, 2, 2⟩ (.inl rfl) rfl (rs := [.tmp 4, .tmp 5]) rfl (vs := [_, _]) ⟨rfl, rfl, trivial⟩ rfl trivial
def i64 (n : Nat) : Int := IntKind.i64.wrap (n : Int)
theorem opGet0_fn (S : Hp) (m : Nat) (κ : CellM) (s : Slc) (a b d : Int) (hr : RORow S s [a, b, d]) : FNs S prog F_op_Machine_get #[pv m, s.val] [Mach0 m κ]
    (fun r : Slc => .tuple #[r.val, iv (cGetR κ (a, b) d).2]) (fun _ => True) (fun r => [Row r T_int 1 ([i64 (cGetR κ (a, b) d).1].map iv), Mach0 m κ]) := by
  refine FNs_of_body func_op_Machine_get rfl ntmps_op_Machine_get rfl (fun R w0 => TM_start ?_)
  obtain ⟨ga, pre, sp, ha, hSg⟩ := hr.lies (by simp)
  have hn : s.n = 3 := by simpa using hr.n
  refine TN.open (Mach0 m κ) rfl fun ⟨h, c, P⟩ _ => ?_
  dsimp only
  refine TM_run 7 tys_of rfl ?_
  refine TM_draw (by kernel_rfl) (sep [cel m T_op_Machine [pv h], cel h T_evac_Heap (evC0 c)]) 15 ?_
  refine TA_reads (fuel := 7) [0, 1, 2, 3, 4, 6, 7, 8] rfl (fun _ _ _ h => h) (by decide +kernel) (by decide +kernel) (by decide +kernel) (by decide +kernel) ent_takes ?_
  refine TR_puresN 3 tys_of rfl (TR_exact rfl (Ex_load tys_of rfl rfl rfl keep_find rfl) ?_)
  refine TR_puresN 2 tys_of rfl (TR_exact rfl (Ex_indexS (sz := 1) (m := 2) tys_of rfl rfl ha rfl rfl rfl (by omega)) ?_)
  refine TR_puresN 0 tys_of rfl (TR_exact rfl (Ex_load tys_of rfl rfl rfl (lies_read hSg) (loadL_row (loadL_one rfl (v := iv d) rfl))) ?_)
  refine TR_puresN 0 tys_of rfl (TR_done ?_)
  refine TA_one (fuel := 6) 5 (by decide +kernel) (TOp_calls rfl rfl cl_op_tok (tok_fn _ s a b [d] hr) fun y14 h14 => ?_)
  refine TB_low ent_takes ?_
  refine TA_one (fuel := 5) 9 (by decide +kernel) (TOp_calls rfl rfl cl_evac_Heap_Get (evGet0_fn _ _ c P κ _ _) fun y18 h18 => ?_)
  refine TB_low ent_takes ?_
  refine TA_frees (fuel := 0) [10, 11, 12, 13, 14] rfl (fun _ _ _ h => h) (by decide +kernel) ?_
  refine TR_puresN 5 tys_of rfl (TR_done ?_)
  refine TM_drawn ?_ (by decide +kernel)
  refine TM_run 5 tys_of rfl ?_
  refine TM_ops 0 tys_of rfl (TOp_buildSliceC tys_of rfl rfl rfl rfl rfl rfl rfl rfl fun b23 => ?_)
  refine TN.rownew b23 1 1 ([i64 (cGetR κ (a, b) d).1].map iv) rfl rfl rfl ?_
  refine TM_run 6 tys_of rfl ?_
  refine TN.shut (Mach0 m κ) rfl (h, c, P) trivial ?_
  refine TN_rets tys_of ⟨some ⟨b23, 0, none⟩, 1, 1⟩ (.inl rfl) rfl (rs := [.tmp 4, .tmp 5]) rfl (vs := [_, _]) ⟨rfl, rfl, trivial⟩ rfl trivial
end Go.Sl.Tz

/-
  What isn't of the form; turnrowref02.Same; the example's operations, one by one.
-/
namespace Go.Sl.Tz
open Go Go.Proofs Go.Sl
set_option maxRecDepth 100000

theorem actNone_fn (S : Hp) (m : Nat) (s : Slc) (code : Int) (rest : List Int) (hr : RORow S s (code :: rest)) (hlen : rest.length < 2 ^ 62) (hd : lookK deedKV code = none) (A : HProp) :
    FNs S prog F_op_Machine_act #[pv m, s.val] [A] (fun r : Slc => .tuple #[r.val, iv 4]) (fun _ => True) (fun r => [Row r T_int 1 (([] : List Int).map iv), A]) := by
  refine FNs_of_body func_op_Machine_act rfl ntmps_op_Machine_act rfl (fun R w0 => TM_start ?_)
  obtain ⟨ga, pre, sp, ha, hS⟩ := hr.lies (by simp)
  have hn : s.n = rest.length + 1 := by simpa using hr.n
  have hcap := hr.cap
  refine TM_run 14 tys_of rfl ?_
  refine TM_eq (t := 11) rfl (fun h => by first | omega | contradiction | (simp at h; done)) (fun h11 => ?_)
  refine TM_run 4 tys_of rfl ?_
  refine TM_draw (by kernel_rfl) (sep []) 11 ?_
  refine TA_reads (fuel := 8) [1, 2, 3] rfl (fun _ _ _ h => h) (by decide +kernel) (by decide +kernel) (by decide +kernel) (by decide +kernel) ent_takes ?_
  refine TR_puresN 1 tys_of rfl (TR_exact rfl (Ex_indexS (sz := 1) (m := 0) tys_of rfl rfl ha rfl rfl rfl (by omega)) ?_)
  refine TR_puresN 0 tys_of rfl (TR_exact rfl (Ex_load tys_of rfl rfl rfl (lies_read hS) (loadL_row (loadL_one rfl (v := iv code) rfl))) ?_)
  refine TR_puresN 0 tys_of rfl (TR_done ?_)
  refine TA_have (fuel' := 2) (listed' := #[true, true, true, true, true, true, true, true, true, false, false]) (fun y : Nat × Nat => True) (fun y : Nat × Nat => ⟨51, [], [(6, pv y.2), (19, Value.bool false), (18, Value.agg #[iv 0, Value.nilFunc]), (5, iv 0), (4, Value.slice none 0 0), (0, pv m), (1, Value.slice s.a s.n s.cap)]⟩) (fun y : Nat × Nat => [cel y.2 106 (cellsL y106.zero), MapOf iv y.1 deedKV, A]) ?_ ?_
  rotate_left
  · intro tail
    refine TA_two (fuel := 7) 0 8 (by decide +kernel) ?_ ?_
    · refine TOp_calls rfl rfl cl_op_deeds (deeds_fn _) fun y13 h13 => ?_
      refine TB_low ent_takes ?_
      refine TA_two (fuel := 6) 4 8 (by decide +kernel) ?_ ?_
      · refine TOp_lookup tys_of rfl rfl rfl iv rfl rfl rfl kI ?_
        rw [hd]
        refine TB_low ent_takes ?_
        refine TA_frees (fuel := 3) [5, 6, 7] rfl (fun _ _ _ h => h) (by decide +kernel) ?_
        refine TR_puresN 3 tys_of rfl (TR_done ?_)
        refine TA_one (fuel := 2) 8 (by decide +kernel) (TOp_alloc tys_of rfl rfl rfl fun b6 => ?_)
        refine TB_low ent_takes ?_
        exact TA_use (tail (y13, b6) trivial) (by decide +kernel) (Env.le_of_knows (by repeat constructor))
      · refine TOp_alloc tys_of rfl rfl rfl fun b6 => ?_
        refine TB_low ent_takes ?_
        refine TA_one (fuel := 5) 4 (by decide +kernel) (TOp_lookup tys_of rfl rfl rfl iv rfl rfl rfl kI ?_)
        rw [hd]
        refine TB_low ent_takes ?_
        refine TA_frees (fuel := 2) [5, 6, 7] rfl (fun _ _ _ h => h) (by decide +kernel) ?_
        refine TR_puresN 3 tys_of rfl (TR_done ?_)
        exact TA_use (tail (y13, b6) trivial) (by decide +kernel) (Env.le_of_knows (by repeat constructor))
    · refine TOp_alloc tys_of rfl rfl rfl fun b6 => ?_
      refine TB_low ent_takes ?_
      refine TA_one (fuel := 6) 0 (by decide +kernel) (TOp_calls rfl rfl cl_op_deeds (deeds_fn _) fun y13 h13 => ?_)
      refine TB_low ent_takes ?_
      refine TA_one (fuel := 5) 4 (by decide +kernel) (TOp_lookup tys_of rfl rfl rfl iv rfl rfl rfl kI ?_)
      rw [hd]
      refine TB_low ent_takes ?_
      refine TA_frees (fuel := 2) [5, 6, 7] rfl (fun _ _ _ h => h) (by decide +kernel) ?_
      refine TR_puresN 3 tys_of rfl (TR_done ?_)
      exact TA_use (tail (y13, b6) trivial) (by decide +kernel) (Env.le_of_knows (by repeat constructor))
  rintro ⟨y13, b6⟩ -
  dsimp only
  refine TA_one (fuel := 1) 9 (by decide +kernel) (TOp_store tys_of rfl rfl rfl rfl rfl rfl rfl rfl ?_)
  refine TB_low ent_takes ?_
  refine TA_frees (fuel := 0) [10] rfl (fun _ _ _ h => h) (by decide +kernel) ?_
  refine TR_puresN 1 tys_of rfl (TR_done ?_)
  refine TM_drawn ?_ (by decide +kernel)
  refine TM_ops 4 tys_of rfl (TOp_exact rfl (Ex_slice tys_of rfl rfl (bnd_some (k := 1) rfl) bnd_none bnd_none (by simp) rfl rfl (by omega) (by omega) (by omega)) ?_)
  refine TM_run 26 tys_of rfl ?_
  refine TN.nilrow T_int 1 (xs := ([] : List Int).map iv) rfl ?_
  refine TN_rets tys_of nilS (.inl rfl) rfl (rs := [.tmp 4, .tmp 5]) rfl (vs := [_, _]) ⟨rfl, rfl, trivial⟩ rfl trivial
theorem eq_of_bang {xs ys : List Int} (h : xs.length = ys.length) (hh : ∀ t, t < xs.length → xs[t]! = ys[t]!) : xs = ys := by
  apply List.ext_getElem h
  intro t h1 h2
  have := hh t h1
  rwa [getElem!_pos xs t h1, getElem!_pos ys t h2] at this
theorem bang_step {xs ys : List Int} {k : Nat} (hh : ∀ t, t < k → xs[t]! = ys[t]!) (h : xs[k]! = ys[k]!) : ∀ t, t < k + 1 → xs[t]! = ys[t]! := fun t ht => by
  rcases Nat.lt_or_eq_of_le (Nat.le_of_lt_succ ht) with h1 | h1
  · exact hh t h1
  · rw [h1]; exact h
theorem same_fn (S : Hp) (s r : Slc) (xs ys : List Int) (hx : xs.length < 2 ^ 62) : FNs S prog F_turnrowref02_Same #[s.val, r.val] [Row s T_int 1 (xs.map iv), Row r T_int 1 (ys.map iv)]
    (fun _ : Unit => .bool (decide (xs = ys))) (fun _ => True) (fun _ => [Row s T_int 1 (xs.map iv), Row r T_int 1 (ys.map iv)]) := by
  refine FNs_of_body func_turnrowref02_Same rfl ntmps_turnrowref02_Same rfl (fun R w0 => TM_start ?_)
  refine TN.rowlen s fun hs => ?_
  refine TN.rowlen r fun hr => ?_
  rw [List.length_map] at hs hr
  refine TM_run 15 tys_of rfl ?_
  refine TM_ne (t := 10) rfl (fun h10 => ?_) (fun h10 => ?_)
  · refine TM_run 8 tys_of rfl ?_
    rw [show decide (xs = ys) = false from decide_eq_false fun e => by rw [e] at hs; omega]
    refine TN_rets tys_of () (.inl rfl) rfl (rs := [.tmp 4]) rfl (vs := [_]) ⟨rfl, trivial⟩ rfl trivial
  · refine TM_run 10 tys_of rfl ?_
    refine TM_loop (fun k : Nat => k ≤ xs.length ∧ ∀ t, t < k → xs[t]! = ys[t]!) (fun k : Nat => ⟨26, [], [(5, iv k), (0, Value.slice s.a s.n s.cap), (1, Value.slice r.a r.n r.cap)]⟩) (fun k : Nat => [Row s T_int 1 (List.map iv xs), Row r T_int 1 (List.map iv ys)]) (fun k : Nat => xs.length - k) 0 ⟨Nat.zero_le _, fun t h => absurd h (Nat.not_lt_zero _)⟩ (Env.le_of_knows (by repeat constructor)) ?_
    rintro k ⟨hk, hh⟩
    refine TM_run 9 tys_of rfl ?_
    refine TM_dec (t := 14) rfl (fun h14 => ?_) (fun h14 => ?_)
    · refine TM_run 6 tys_of rfl ?_
      refine TN.rowopen s (by omega) fun g19 pre19 sp19 ha19 hrow19 => ?_
      refine TN.rowopen r (by omega) fun g23 pre23 sp23 ha23 hrow23 => ?_
      refine TM_draw (by kernel_rfl) (sep [cel g23 T_int (pre23 ++ (List.map iv ys ++ sp23)), cel g19 T_int (pre19 ++ (List.map iv xs ++ sp19))]) 9 ?_
      refine TA_reads (fuel := 0) [0, 1, 2, 3, 4, 5, 6, 7, 8] rfl (fun _ _ _ h => h) (by decide +kernel) (by decide +kernel) (by decide +kernel) (by decide +kernel) ent_takes ?_
      refine TR_puresN 2 tys_of rfl (TR_exact rfl (Ex_indexS (sz := 1) tys_of rfl rfl ha19 rfl rfl rfl (by omega)) ?_)
      refine TR_puresN 0 tys_of rfl (TR_exact rfl (Ex_load tys_of rfl rfl rfl keep_find (load_map rfl (by first | omega | assumption))) ?_)
      refine TR_puresN 2 tys_of rfl (TR_exact rfl (Ex_indexS (sz := 1) tys_of rfl rfl ha23 rfl rfl rfl (by omega)) ?_)
      refine TR_puresN 0 tys_of rfl (TR_exact rfl (Ex_load tys_of rfl rfl rfl keep_find (load_map rfl (by first | omega | assumption))) ?_)
      refine TR_puresN 1 tys_of rfl (TR_done ?_)
      refine TM_drawn ?_ (by decide +kernel)
      refine TM_run 1 tys_of rfl ?_
      refine TM_ne (t := 25) rfl (fun h25 => ?_) (fun h25 => ?_)
      · refine TM_run 12 tys_of rfl ?_
        rw [show decide (xs = ys) = false from decide_eq_false fun e => h25 (by rw [e])]
        refine TN.rowclose hrow19 ?_
        refine TN.rowclose hrow23 ?_
        refine TN_rets tys_of () (.inl rfl) rfl (rs := [.tmp 4]) rfl (vs := [_]) ⟨rfl, trivial⟩ rfl trivial
      · refine TM_run 7 tys_of rfl ?_
        rw [wrap_i64 (x := (↑k : Int) + 1) (by omega) (by omega)]
        refine TM_run 2 tys_of rfl ?_
        refine TN.rowclose hrow19 ?_
        refine TN.rowclose hrow23 ?_
        refine TM_again (k + 1) ⟨by omega, bang_step hh h25⟩ (by omega) (Env.le_of_knows (by repeat constructor))
    · refine TM_run 12 tys_of rfl ?_
      rw [show decide (xs = ys) = true from decide_eq_true (eq_of_bang (by omega) fun t ht => hh t (by omega))]
      refine TN_rets tys_of () (.inl rfl) rfl (rs := [.tmp 4]) rfl (vs := [_]) ⟨rfl, trivial⟩ rfl trivial
end Go.Sl.Tz

/-
  The example's operations, one by one: what each answers.
-/
namespace Go.Sl.Tz
open Go Go.Proofs Go.Sl
set_option maxRecDepth 100000

def a0 : CellM := cell0 4 8 4
def a1 : CellM := defineS a0 [u64 2, u64 2, u64 0]
def a2 : CellM := openS a1 0
def a3 : CellM := cMakeS a2 1 1 0
def aK : Nat → CellM
  | 0 => a0
  | 1 => a1
  | 2 => a2
  | _ + 3 => a3
def aOps : List (List Int × List Int) := [([1, 2, 2, 0], [0, 1]), ([2, 0], [0, 1]), ([3, 1, 1, 0], [0, 0, 1]), ([4, 0, 1, 0], [0, 0]), ([4, 0, 2, 0], [8]), ([99], [4])]
theorem ex_define : defineR a0 [u64 2, u64 2, u64 0] = (1, 0) := by decide +kernel
theorem ex_open : openR a1 0 = (1, 0) := by decide +kernel
theorem ex_make : cMakeR a2 1 1 0 = ((0, 1), 0) := by decide +kernel
theorem ex_get1 : (i64 (cGetR a3 (0, 1) 0).1, (cGetR a3 (0, 1) 0).2) = (0, 0) := by decide +kernel
theorem ex_get2 : (cGetR a3 (0, 2) 0).2 = 8 := by decide +kernel
theorem do_of {S : Hp} {m : Nat} {s : Slc} {A B : HProp} {l w : List Int} {e : Int}
    (hact : FNs S prog F_op_Machine_act #[pv m, s.val] [A] (fun r : Slc => .tuple #[r.val, iv e]) (fun _ => True) (fun r => [Row r T_int 1 (l.map iv), B])) (hl : l.length < 2 ^ 31) (hw : ansL e l = w) :
    FNs S prog F_op_Machine_Do #[pv m, s.val] [A] (fun y : Slc => y.val) (fun _ => True) (fun y => [Row y T_int 1 (w.map iv), B]) := by
  subst hw
  exact (do_fn S m s (A := A) (fun r : Slc => r) (fun _ => l) (fun _ => e) (fun _ => True) (fun _ => B) (fun _ _ => hl) hact).conv fun y _ => ⟨y.2, rfl, trivial, .refl _⟩
theorem ex_openPre : OpenPre a1 := ⟨by decide +kernel, by decide +kernel, by have h : a1.sp = [] := (by kernel_rfl); rw [h]; nofun, by have h : a1.mi = [] := (by kernel_rfl); rw [h]; nofun⟩
theorem ex_makePre : MakePre a2 1 := by
  have hsp : a2.sp = [(1, space0 1)] := by kernel_rfl
  have hmi : a2.mi = [(1, [])] := by kernel_rfl
  have htr : a2.tr.kv = [(1, iv 0)] := by kernel_rfl
  have hlive : ∀ id, liveT a2.tr id = true → id = 1 := fun id h => by
    unfold liveT lookK at h
    rw [htr] at h
    unfold findK at h
    by_cases he : (1 : Int) = id
    · exact he.symm
    · rw [if_neg he] at h; exact absurd h (by simp [findK])
  refine ⟨⟨?_, ?_, fun id h => ?_, fun id h => ?_, fun x hx => ?_⟩, fun _ => ?_⟩
  · rw [hsp]; decide
  · rw [hmi]; decide
  · rw [hsp, hlive id h]; decide
  · rw [hmi, hlive id h]; decide
  · rw [hsp] at hx; rw [List.mem_singleton.1 hx]; decide
  · have : miOf a2 1 = [] := by unfold miOf; rw [hmi]; rfl
    rw [this]; rfl
theorem ex_do (S : Hp) (hS : Tab S) (m : Nat) (s : Slc) : ∀ (k : Nat), k < 6 → RORow S s aOps[k]!.1 → FNs S prog F_op_Machine_Do #[pv m, s.val] [Mach0 m (aK k)] (fun y : Slc => y.val) (fun _ => True)
    (fun y => [Row y T_int 1 (aOps[k]!.2.map iv), Mach0 m (aK (k + 1))])
  | 0, _, hr => do_of (act_fn S m s 1 [2, 2, 0] hr (by decide) 3 F_op_Machine_define rfl rfl cl_op_Machine_define (fun r : Slc => r) (fun _ => _) _ _ (opDefine_fn S hS m a0 (dropS s 1) 2 2 0 (hr.drop (k := 1) (by decide)))) (by decide) (by rw [ex_define]; rfl)
  | 1, _, hr => do_of (act_fn S m s 2 [0] hr (by decide) 1 F_op_Machine_open rfl rfl cl_op_Machine_open (fun r : Slc => r) (fun _ => _) _ _ (opOpen_fn S m a1 ex_openPre (dropS s 1) 0 (hr.drop (k := 1) (by decide)))) (by decide) (by rw [ex_open]; rfl)
  | 2, _, hr => do_of (act_fn S m s 3 [1, 1, 0] hr (by decide) 3 F_op_Machine_create rfl rfl cl_op_Machine_create (fun r : Slc => r) (fun _ => _) _ _ (opCreate0_fn S hS m a2 (dropS s 1) 1 1 0 ex_makePre (hr.drop (k := 1) (by decide)))) (by decide) (by rw [ex_make]; rfl)
  | 3, _, hr => do_of (act_fn S m s 4 [0, 1, 0] hr (by decide) 3 F_op_Machine_get rfl rfl cl_op_Machine_get (fun r : Slc => r) (fun _ => _) _ _ (opGet0_fn S m a3 (dropS s 1) 0 1 0 (hr.drop (k := 1) (by decide)))) (by simp) (by have h := ex_get1; rw [Prod.mk.injEq] at h; rw [h.1, h.2]; rfl)
  | 4, _, hr => do_of (act_fn S m s 4 [0, 2, 0] hr (by decide) 3 F_op_Machine_get rfl rfl cl_op_Machine_get (fun r : Slc => r) (fun _ => _) _ _ (opGet0_fn S m a3 (dropS s 1) 0 2 0 (hr.drop (k := 1) (by decide)))) (by simp) (by rw [ex_get2]; rfl)
  | 5, _, hr => do_of (actNone_fn S m s 99 [] hr (by decide) (by decide +kernel) (Mach0 m a3)) (by decide) rfl
  | _ + 6, h, _ => absurd h (by omega)
theorem Tab.more {S T : Hp} (h : Tab S) : Tab (hjoin S T) := let ⟨cs, t, fr, h1, h2⟩ := h; ⟨cs, t, fr, hjoin_left h1, h2⟩
theorem ex_doRow (S : Hp) (hS : Tab S) (m : Nat) (s : Slc) (k : Nat) (hk : k < 6) (xs ys : List Int) (hx : xs = aOps[k]!.1) (hy : ys = aOps[k]!.2) : FNs S prog F_op_Machine_Do #[pv m, s.val] [Row s T_int 1 (xs.map iv), Mach0 m (aK k)] (fun y : Slc => y.val) (fun _ => True)
    (fun y => [Row s T_int 1 (xs.map iv), Row y T_int 1 (ys.map iv), Mach0 m (aK (k + 1))]) := by
  subst hx hy
  exact FNs.lend fun T hT d => ex_do (hjoin S T) hS.more m s k hk (RORow.of hT d)
abbrev lit (b n : Nat) : Slc := ⟨some ⟨b, 0, none⟩, n, n⟩
/-- The example's rows. -/
def exL (s : List (Slc × Slc)) : List ((Slc × Slc) × (List Int × List Int)) := s.zip aOps
abbrev exR (x : (Slc × Slc) × (List Int × List Int)) : List HProp := [Row x.1.1 T_int 1 (x.2.1.map iv), Row x.1.2 T_int 1 (x.2.2.map iv)]
def exC (x : (Slc × Slc) × (List Int × List Int)) : List Value := [x.1.1.val, x.1.2.val]
instance : Inhabited Slc := ⟨nilS⟩
theorem exL_len {s : List (Slc × Slc)} (hs : s.length = 6) : (exL s).length = 6 := by unfold exL; rw [List.length_zip, hs]; rfl
theorem exL_at {s : List (Slc × Slc)} (hs : s.length = 6) {k : Nat} (hk : k < 6) : (exL s)[k]!.2 = aOps[k]! := by
  show (s.zip aOps)[k]!.2 = _
  have h1 : k < (s.zip aOps).length := by rw [List.length_zip, hs]; exact hk
  have h2 : k < aOps.length := hk
  rw [getElem!_pos (s.zip aOps) k h1, getElem!_pos aOps k h2, List.getElem_zip]
end Go.Sl.Tz

/-
  The statement OpNone: what its function computes.
-/
namespace Go.Sl.Tz
open Go Go.Proofs Go.Sl
set_option maxRecDepth 100000

section
variable {Γ : Ctx} {K : Act → World → Prop} {E : Env} {L : List HProp} {α : Type} [Inhabited α]
theorem TN.bigat (f : α → List HProp) (l : List α) (i : Nat) (hi : i < l.length) {R : List HProp} [ht : Take1 (big f l) L R] (h : TN Γ K E (sep (f l[i]! ++ (big f (l.eraseIdx i) :: R)))) : TN Γ K E (sep L) :=
  TN.bigopen f l i hi (by rw [getElem!_pos l i hi] at h; exact h)
theorem TN.bigback (f : α → List HProp) (l : List α) (i : Nat) (hi : i < l.length) {R : List HProp} [ht : Takes (f l[i]! ++ [big f (l.eraseIdx i)]) L R] (h : TN Γ K E (sep (big f l :: R))) : TN Γ K E (sep L) :=
  TN.bigclose f l i hi l[i]! (by rw [getElem!_pos l i hi, List.set_getElem_self]; exact h)
end
theorem aOps_small : ∀ k, k < 6 → aOps[k]!.2.length < 2 ^ 62 := by decide
theorem alive_fn (S : Hp) (hS : Tab S) : FNs S prog F_turnrowlaw19_alive #[] [] (fun _ : Unit => .bool true) (fun _ => True) (fun _ => []) := by
  refine FNs_of_body func_turnrowlaw19_alive rfl ntmps_turnrowlaw19_alive rfl (fun R w0 => TM_start ?_)
  refine TM_ops 7 tys_of rfl (TOp_calls rfl rfl cl_op_New (opNew_fn _ _ _ _) fun y6 h6 => ?_)
  obtain ⟨m, rfl⟩ := Option.isSome_iff_exists.1 (h6.2 ⟨⟨by decide, by decide, by decide, by decide⟩, by decide, by decide⟩)
  simp only [optP, optE, Option.isSome_some, Option.map_some, ↓reduceIte]
  refine TM_ops 24 tys_of rfl (TOp_buildSliceC tys_of rfl rfl rfl rfl rfl rfl rfl rfl fun b15 => ?_)
  refine TN.rownew b15 4 1 (([1, 2, 2, 0] : List Int).map iv) rfl rfl rfl ?_
  refine TM_ops 0 tys_of rfl (TOp_buildSliceC tys_of rfl rfl rfl rfl rfl rfl rfl rfl fun b16 => ?_)
  refine TN.rownew b16 2 1 (([0, 1] : List Int).map iv) rfl rfl rfl ?_
  refine TM_ops 1 tys_of rfl (TOp_buildSliceC tys_of rfl rfl rfl rfl rfl rfl rfl rfl fun b18 => ?_)
  refine TN.rownew b18 2 1 (([2, 0] : List Int).map iv) rfl rfl rfl ?_
  refine TM_ops 0 tys_of rfl (TOp_buildSliceC tys_of rfl rfl rfl rfl rfl rfl rfl rfl fun b19 => ?_)
  refine TN.rownew b19 2 1 (([0, 1] : List Int).map iv) rfl rfl rfl ?_
  refine TM_ops 1 tys_of rfl (TOp_buildSliceC tys_of rfl rfl rfl rfl rfl rfl rfl rfl fun b21 => ?_)
  refine TN.rownew b21 4 1 (([3, 1, 1, 0] : List Int).map iv) rfl rfl rfl ?_
  refine TM_ops 0 tys_of rfl (TOp_buildSliceC tys_of rfl rfl rfl rfl rfl rfl rfl rfl fun b22 => ?_)
  refine TN.rownew b22 3 1 (([0, 0, 1] : List Int).map iv) rfl rfl rfl ?_
  refine TM_ops 1 tys_of rfl (TOp_buildSliceC tys_of rfl rfl rfl rfl rfl rfl rfl rfl fun b24 => ?_)
  refine TN.rownew b24 4 1 (([4, 0, 1, 0] : List Int).map iv) rfl rfl rfl ?_
  refine TM_ops 0 tys_of rfl (TOp_buildSliceC tys_of rfl rfl rfl rfl rfl rfl rfl rfl fun b25 => ?_)
  refine TN.rownew b25 2 1 (([0, 0] : List Int).map iv) rfl rfl rfl ?_
  refine TM_ops 1 tys_of rfl (TOp_buildSliceC tys_of rfl rfl rfl rfl rfl rfl rfl rfl fun b27 => ?_)
  refine TN.rownew b27 4 1 (([4, 0, 2, 0] : List Int).map iv) rfl rfl rfl ?_
  refine TM_ops 0 tys_of rfl (TOp_buildSliceC tys_of rfl rfl rfl rfl rfl rfl rfl rfl fun b28 => ?_)
  refine TN.rownew b28 1 1 (([8] : List Int).map iv) rfl rfl rfl ?_
  refine TM_ops 1 tys_of rfl (TOp_buildSliceC tys_of rfl rfl rfl rfl rfl rfl rfl rfl fun b30 => ?_)
  refine TN.rownew b30 1 1 (([99] : List Int).map iv) rfl rfl rfl ?_
  refine TM_ops 0 tys_of rfl (TOp_buildSliceC tys_of rfl rfl rfl rfl rfl rfl rfl rfl fun b31 => ?_)
  refine TN.rownew b31 1 1 (([4] : List Int).map iv) rfl rfl rfl ?_
  refine TM_ops 1 tys_of rfl (TOp_buildSliceA tys_of rfl rfl rfl rfl rfl rfl rfl (cells := (exL [(lit b15 4, lit b16 2), (lit b18 2, lit b19 2), (lit b21 4, lit b22 3), (lit b24 4, lit b25 2), (lit b27 4, lit b28 1), (lit b30 1, lit b31 1)]).flatMap exC) rfl fun b33 => ?_)
  obtain ⟨s, hs, hs6⟩ : ∃ s, s = [(lit b15 4, lit b16 2), (lit b18 2, lit b19 2), (lit b21 4, lit b22 3), (lit b24 4, lit b25 2), (lit b27 4, lit b28 1), (lit b30 1, lit b31 1)] ∧ s.length = 6 := ⟨_, rfl, rfl⟩
  refine TN.fold (Lx := [Row (lit b15 4) T_int 1 (([1, 2, 2, 0] : List Int).map iv), Row (lit b16 2) T_int 1 (([0, 1] : List Int).map iv), Row (lit b18 2) T_int 1 (([2, 0] : List Int).map iv), Row (lit b19 2) T_int 1 (([0, 1] : List Int).map iv), Row (lit b21 4) T_int 1 (([3, 1, 1, 0] : List Int).map iv), Row (lit b22 3) T_int 1 (([0, 0, 1] : List Int).map iv), Row (lit b24 4) T_int 1 (([4, 0, 1, 0] : List Int).map iv), Row (lit b25 2) T_int 1 (([0, 0] : List Int).map iv), Row (lit b27 4) T_int 1 (([4, 0, 2, 0] : List Int).map iv), Row (lit b28 1) T_int 1 (([8] : List Int).map iv), Row (lit b30 1) T_int 1 (([99] : List Int).map iv), Row (lit b31 1) T_int 1 (([4] : List Int).map iv)]) (big exR (exL s)) (by rw [hs]; exact .refl _) ?_
  rw [← hs]
  refine TN.re (Mach0 m (cell0 4 8 4)) (Mach0 m (aK 0)) rfl ?_
  refine TM_run 5 tys_of rfl ?_
  refine TM_loop (fun k : Nat => k ≤ 6) (fun k : Nat => ⟨48, [], [(35, iv k), (34, iv 6), (33, Value.slice (some (Addr.mk b33 0 none)) 6 6), (1, pv m)]⟩) (fun k : Nat => [Mach0 m (aK k), big exR (exL s), cel b33 56 (List.flatMap exC (exL s))]) (fun k : Nat => 6 - k) 0 (Nat.zero_le _) (Env.le_of_knows (by repeat constructor)) ?_
  rintro k hk
  refine TM_run 6 tys_of rfl ?_
  refine TM_dec (t := 36) rfl (fun h36 => ?_) (fun h36 => ?_)
  · refine TM_ops 7 tys_of rfl (TOp_exact rfl (Ex_indexS (sz := 2) tys_of rfl rfl rfl rfl rfl rfl (by omega)) ?_)
    refine TM_ops 0 tys_of rfl (TOp_exact rfl (Ex_load tys_of rfl rfl rfl lies_find (load_flat0 rfl rfl (fun _ => rfl) (by rw [exL_len hs6]; omega))) ?_)
    have hk6 : k < 6 := by omega
    have hlk : k < (exL s).length := by rw [exL_len hs6]; exact hk6
    have hL := exL_at hs6 hk6
    refine TN.bigat exR (exL s) k hlk ?_
    dsimp only [exR]
    refine TM_ops 0 tys_of rfl (TOp_alloc tys_of rfl rfl rfl fun b4 => ?_)
    refine TM_ops 0 tys_of rfl (TOp_store tys_of rfl rfl rfl rfl rfl rfl rfl rfl ?_)
    refine TM_run 3 tys_of rfl ?_
    refine TM_draw (by kernel_rfl) (sep [cel b4 56 (setAll (cellsL y56.zero) 0 (cellsL (Value.agg (exC (exL s)[k]!).toArray))), cel b33 56 (List.flatMap exC (exL s))]) 8 ?_
    refine TA_reads (fuel := 3) [0, 1, 2, 4, 5] rfl (fun _ _ _ h => h) (by decide +kernel) (by decide +kernel) (by decide +kernel) (by decide +kernel) ent_takes ?_
    refine TR_puresN 1 tys_of rfl (TR_exact rfl (Ex_indexA (sz := 1) (m := 0) tys_of rfl rfl rfl rfl rfl (by omega)) ?_)
    refine TR_puresN 0 tys_of rfl (TR_exact rfl (Ex_load tys_of rfl rfl rfl keep_find rfl) ?_)
    refine TR_puresN 0 tys_of rfl (TR_exact rfl (Ex_indexA (sz := 1) (m := 1) tys_of rfl rfl rfl rfl rfl (by omega)) ?_)
    refine TR_puresN 0 tys_of rfl (TR_exact rfl (Ex_load tys_of rfl rfl rfl keep_find rfl) ?_)
    refine TR_puresN 0 tys_of rfl (TR_done ?_)
    refine TA_one (fuel := 2) 3 (by decide +kernel) (TOp_calls rfl rfl cl_op_Machine_Do (ex_doRow _ hS m (exL s)[k]!.1.1 k hk6 (exL s)[k]!.2.1 (exL s)[k]!.2.2 (by rw [hL]) (by rw [hL])) fun y42 h42 => ?_)
    refine TB_low ent_takes ?_
    refine TA_one (fuel := 1) 6 (by decide +kernel) (TOp_calls rfl rfl cl_turnrowref02_Same (same_fn _ _ _ ((exL s)[k]!.snd.snd) ((exL s)[k]!.snd.snd) (by (rw [hL]; exact aOps_small k hk6))) fun y45 h45 => ?_)
    refine TB_low ent_takes ?_
    refine TA_frees (fuel := 0) [7] rfl (fun _ _ _ h => h) (by decide +kernel) ?_
    refine TR_puresN 1 tys_of rfl (TR_done ?_)
    refine TM_drawn ?_ (by decide +kernel)
    refine TM_run 1 tys_of rfl ?_
    refine TM_ndec (t := 46) rfl (fun h => by first | omega | contradiction | (simp at h; done)) (fun h46 => ?_)
    refine TM_run 6 tys_of rfl ?_
    rw [wrap_i64 (x := (↑k : Int) + 1) (by omega) (by omega)]
    refine TM_run 2 tys_of rfl ?_
    refine TN.bigback exR (exL s) k hlk ?_
    refine TM_again (k + 1) (by omega) (by omega) (Env.le_of_knows (by repeat constructor))
  · refine TM_run 12 tys_of rfl ?_
    refine TN_rets tys_of () (.inl rfl) rfl (rs := [.tmp 0]) rfl (vs := [_]) ⟨rfl, trivial⟩ rfl trivial
end Go.Sl.Tz

/-
  The statement OpNone: what its function computes.
-/
namespace Go.Sl.Tz
open Go Go.Proofs Go.Sl
set_option maxRecDepth 100000

theorem doNil_fn (S : Hp) (v : Value) : FNs S prog F_op_Machine_Do #[nilP, v] [] (fun y : Slc => y.val) (fun _ => True) (fun y => [Row y T_int 1 (([1] : List Int).map iv)]) := by
  refine FNs_of_body func_op_Machine_Do rfl ntmps_op_Machine_Do rfl (fun R w0 => TM_start ?_)
  refine TM_ops 15 tys_of rfl (TOp_buildSliceC tys_of rfl rfl rfl rfl rfl rfl rfl rfl fun b9 => ?_)
  refine TN.rownew b9 1 1 (([1] : List Int).map iv) rfl rfl rfl ?_
  refine TM_run 5 tys_of rfl ?_
  refine TN_rets tys_of (lit b9 1) (.inl rfl) rfl (rs := [.tmp 4]) rfl (vs := [_]) ⟨rfl, trivial⟩ rfl trivial
theorem heapNil_fn (S : Hp) : FNs S prog F_op_Machine_Heap #[nilP] [] (fun _ : Unit => nilP) (fun _ => True) (fun _ => []) := by
  refine FNs_of_body func_op_Machine_Heap rfl ntmps_op_Machine_Heap rfl (fun R w0 => TM_start ?_)
  refine TM_run 20 tys_of rfl ?_
  refine TN_rets tys_of () (.inl rfl) rfl (rs := [.tmp 2]) rfl (vs := [_]) ⟨rfl, trivial⟩ rfl trivial
theorem none_fn (S : Hp) (hS : Tab S) (a b c : Int) (v : Value) : FNs S prog F_turnrowlaw19_OpNone #[.agg #[iv a, iv b, iv c], v] [] (fun _ : Unit => .bool true) (fun _ => True) (fun _ => []) := by
  refine FNs_of_body func_turnrowlaw19_OpNone rfl ntmps_turnrowlaw19_OpNone rfl (fun R w0 => TM_start ?_)
  refine TM_ops 2 tys_of rfl (TOp_box rfl rfl rfl fun b2 => ?_)
  refine TM_ops 11 tys_of rfl (TOp_calls rfl rfl cl_turnrowlaw19_alive (alive_fn _ (by assumption)) fun y10 h10 => ?_)
  refine TM_ops 4 tys_of rfl (TOp_calls rfl rfl cl_op_Machine_Do (doNil_fn _ _) fun y15 h15 => ?_)
  refine TM_ops 0 tys_of rfl (TOp_buildSliceC tys_of rfl rfl rfl rfl rfl rfl rfl rfl fun b16 => ?_)
  refine TN.rownew b16 1 1 (([1] : List Int).map iv) rfl rfl rfl ?_
  refine TM_ops 0 tys_of rfl (TOp_calls rfl rfl cl_turnrowref02_Same (same_fn _ y15 (lit b16 1) [1] [1] (by decide)) fun y17 h17 => ?_)
  refine TM_ops 4 tys_of rfl (TOp_calls rfl rfl cl_op_Machine_Heap (heapNil_fn _) fun y22 h22 => ?_)
  refine TM_ops 10 tys_of rfl (TOp_exact rfl (Ex_load tys_of rfl rfl rfl lies_find rfl) ?_)
  refine TM_ops 1 tys_of rfl (TOp_exact rfl (Ex_load tys_of rfl rfl rfl lies_find rfl) ?_)
  refine TM_ops 1 tys_of rfl (TOp_exact rfl (Ex_load tys_of rfl rfl rfl lies_find rfl) ?_)
  refine TM_ops 0 tys_of rfl (TOp_calls rfl rfl cl_op_New (opNew_fn _ _ _ _) fun y32 h32 => ?_)
  rcases y32 with _ | m <;> simp only [optH, optE, optP, Option.isSome_none, Option.isSome_some, Option.map_none, Option.map_some, Bool.false_eq_true, ↓reduceIte, true_iff, false_iff] at h32 ⊢
  · refine TM_ops 10 tys_of rfl (TOp_exact rfl (Ex_load tys_of rfl rfl rfl lies_find rfl) ?_)
    refine TM_ops 1 tys_of rfl (TOp_exact rfl (Ex_load tys_of rfl rfl rfl lies_find rfl) ?_)
    refine TM_ops 1 tys_of rfl (TOp_exact rfl (Ex_load tys_of rfl rfl rfl lies_find rfl) ?_)
    refine TM_ops 0 tys_of rfl (TOp_calls rfl rfl cl_evac_New (evNew_fn _ _ _ _) fun y42 h42 => ?_)
    rcases y42 with _ | ⟨h, c', P⟩ <;> simp only [optH, optE, optP, Option.isSome_none, Option.isSome_some, Option.map_none, Option.map_some, Bool.false_eq_true, ↓reduceIte, true_iff, false_iff] at h42 ⊢
    all_goals first | exact absurd h42 h32 | exact absurd h32 h42 | skip
    refine TM_run 23 tys_of rfl ?_
    refine TN_rets tys_of () (.inl rfl) rfl (rs := [.tmp 4]) rfl (vs := [_]) ⟨rfl, trivial⟩ rfl trivial
  · refine TM_ops 10 tys_of rfl (TOp_exact rfl (Ex_load tys_of rfl rfl rfl lies_find rfl) ?_)
    refine TM_ops 1 tys_of rfl (TOp_exact rfl (Ex_load tys_of rfl rfl rfl lies_find rfl) ?_)
    refine TM_ops 1 tys_of rfl (TOp_exact rfl (Ex_load tys_of rfl rfl rfl lies_find rfl) ?_)
    refine TM_ops 0 tys_of rfl (TOp_calls rfl rfl cl_evac_New (evNew_fn _ _ _ _) fun y42 h42 => ?_)
    rcases y42 with _ | ⟨h, c', P⟩ <;> simp only [optH, optE, optP, Option.isSome_none, Option.isSome_some, Option.map_none, Option.map_some, Bool.false_eq_true, ↓reduceIte, true_iff, false_iff] at h42 ⊢
    all_goals first | exact absurd h42 h32 | exact absurd h32 h42 | skip
    refine TM_run 23 tys_of rfl ?_
    refine TN_rets tys_of () (.inl rfl) rfl (rs := [.tmp 4]) rfl (vs := [_]) ⟨rfl, trivial⟩ rfl trivial
end Go.Sl.Tz

/-
  From a contract over what is owned to a row: the whole heap is lent; what the condition on the one listed variable gives.
-/
namespace Go.Sl.Tz
open Go Go.Proofs Go.Sl Go.Proofs.YtjifmcdlbffemaaGreatDoor
open Go.ChangeShapes Go.WideShapes Go.ChangeAt Go.WideMaps Go.WideElems Go.RowKit
set_option maxRecDepth 100000

def tabH (W : World) : Hp := fun b => if b = 0 then W.heap[0]? else none
def restH (W : World) : Hp := fun b => if b = 0 then none else W.heap[b]?
/-- All that there was is as it was. -/
structure Old (W W' : World) : Prop where
  os : W'.os = W.os
  output : W'.output = W.output
  size : W.heap.size ≤ W'.heap.size
  block : ∀ k, k < W.heap.size → W'.heap[k]? = W.heap[k]?
theorem calls_of {f : FuncId} {args : Array Value} {W : World} {ι : Type} {V : ι → Value} {φ : ι → Prop} (h : FNs (tabH W) prog f args [] V φ (fun _ => [])) :
    Calls prog f args W (fun e W' => ∃ x, φ x ∧ e = .returned (V x) ∧ Old W W') := by
  have d : hdisj (tabH W) (restH W) := fun b => by
    unfold tabH restH
    by_cases hb : b = 0
    · exact .inr (if_pos hb)
    · exact .inl (if_neg hb)
  have hall : ∀ b, hjoin (tabH W) (restH W) b = W.heap[b]? := fun b => by
    unfold hjoin tabH restH
    by_cases hb : b = 0
    · subst hb; simp; cases W.heap[0]? <;> rfl
    · simp [hb]
  have hs : Sat W (star (sep []) (star (own (tabH W)) (own (restH W)))) := by
    refine ⟨hjoin (tabH W) (restH W), fun b o hb => by rw [hall] at hb; exact hb, ?_⟩
    show star emp _ _
    rw [emp_star]
    exact ⟨_, _, d, rfl, rfl, rfl⟩
  refine (h (own (restH W)) W hs).mono ?_
  rintro e W' ⟨v, rfl, hs', hk⟩
  rw [ex_star] at hs'
  obtain ⟨y, hy, x, hx⟩ := hs'
  rw [star_assoc] at hx
  obtain ⟨⟨rfl, hφ⟩, hx3⟩ := (lift_star _ _ _).1 hx
  have hx2 : star (own (tabH W)) (own (restH W)) y := by
    have : star emp (star (own (tabH W)) (own (restH W))) y := hx3
    rwa [emp_star] at this
  obtain ⟨p, q, _, e1, hp, hq⟩ := hx2
  have hp' : p = tabH W := hp
  have hq' : q = restH W := hq
  subst hp' hq'
  refine ⟨x, hφ, rfl, hk.os, hk.output, hk.size, fun k hlt => ?_⟩
  have h1 := hy k (W.heap[k]'hlt) (by rw [e1, hall]; exact Array.getElem?_eq_getElem hlt)
  rw [h1, Array.getElem?_eq_getElem hlt]
theorem Old.below {W W' : World} (h : Old W W') : Below W.heap.size W { W' with tape := W.tape } := ⟨h.os, rfl, h.output, h.size, h.block⟩
theorem Old.kept {W W' : World} (h : Old W W') (may : MemPlace → Prop) : W.keptBut W' may := by
  refine ⟨h.os, h.output, fun i hi => ?_⟩
  rw [h.block i hi]
  split
  · rename_i c t fr c' t' fr' h1 h2
    rw [h1] at h2
    cases h2
    exact ⟨rfl, rfl, rfl, fun _ _ => rfl⟩
  · rename_i es cl es' cl' h1 h2
    rw [h1] at h2
    cases h2
    exact .inr ⟨rfl, rfl⟩
  · rfl

theorem gTab : prog.globalNamed "math/bits.deBruijn64tab" = some 0 := by kernel_rfl
theorem tTab : (prog.globals[0]?).map (·.type) = some 322 := by kernel_rfl
theorem laidOutT : laidOutB prog = true := by kernel_rfl
abbrev laidT : List (String × DataW Unit) := [("math/bits.deBruijn64tab", Rows.laid_math_bits_deBruijn64tab)]
theorem laid_list : ∃ l : List (DataW Unit), (Rows.laid_math_bits_deBruijn64tab : DataW Unit) = .agg l ∧ l.length = 64 ∧ ∀ j, j < 64 → l[j]? = some (.lit (.int .u8 (Lib.deBruijn64tab.getD j 0 : Nat))) :=
  ⟨_, rfl, rfl, fun j hj => by
    match j, hj with
    | 0, _ => rfl | 1, _ => rfl | 2, _ => rfl | 3, _ => rfl | 4, _ => rfl | 5, _ => rfl | 6, _ => rfl | 7, _ => rfl | 8, _ => rfl | 9, _ => rfl
    | 10, _ => rfl | 11, _ => rfl | 12, _ => rfl | 13, _ => rfl | 14, _ => rfl | 15, _ => rfl | 16, _ => rfl | 17, _ => rfl | 18, _ => rfl | 19, _ => rfl
    | 20, _ => rfl | 21, _ => rfl | 22, _ => rfl | 23, _ => rfl | 24, _ => rfl | 25, _ => rfl | 26, _ => rfl | 27, _ => rfl | 28, _ => rfl | 29, _ => rfl
    | 30, _ => rfl | 31, _ => rfl | 32, _ => rfl | 33, _ => rfl | 34, _ => rfl | 35, _ => rfl | 36, _ => rfl | 37, _ => rfl | 38, _ => rfl | 39, _ => rfl
    | 40, _ => rfl | 41, _ => rfl | 42, _ => rfl | 43, _ => rfl | 44, _ => rfl | 45, _ => rfl | 46, _ => rfl | 47, _ => rfl | 48, _ => rfl | 49, _ => rfl
    | 50, _ => rfl | 51, _ => rfl | 52, _ => rfl | 53, _ => rfl | 54, _ => rfl | 55, _ => rfl | 56, _ => rfl | 57, _ => rfl | 58, _ => rfl | 59, _ => rfl
    | 60, _ => rfl | 61, _ => rfl | 62, _ => rfl | 63, _ => rfl
    | _ + 64, h => exact absurd h (by omega)⟩
theorem tab_of_laid {W : World} (h : laidMetH prog laidT W) : Tab (tabH W) := by
  rw [MakeChecks.laidMetH_plain _ _ _ (by kernel_rfl)] at h
  obtain ⟨ps, ⟨g0, t0, cs0, f0, p0, q0, hg0, ht0, hv0, hd0, _, _⟩, _⟩ := h
  obtain rfl := Option.some.inj (gTab.symm.trans hg0)
  obtain rfl := Option.some.inj (tTab.symm.trans ht0)
  obtain ⟨xs, m, rfl, hx, hlen, hn, hel⟩ := DataW.trod_array (Tys.Of.fits tys_of (t := 322) (y := y322) rfl).ud hd0
  have c5 : prog.cellsOf 5 = 1 := by kernel_rfl
  have c322 : prog.cellsOf 322 = 64 := by kernel_rfl
  obtain ⟨l, hl, hl64, hlj⟩ := laid_list
  have hb : ∃ cs t fr, W.heap[0]? = some (.cells cs t fr) ∧ cs = cs0 := by
    unfold World.var? at hv0
    rw [gTab] at hv0
    simp only [Option.bind_some] at hv0
    split at hv0
    · rename_i c t f hc; cases hv0; exact ⟨_, _, _, hc, rfl⟩
    · cases hv0
  obtain ⟨cs, t, fr, hc, rfl⟩ := hb
  refine ⟨cs, t, fr, by unfold tabH; rw [if_pos rfl]; exact hc, fun j hj => ?_⟩
  have hx' : DataW.agg l = .agg (xs.map (·.1)) := by rw [← hl]; exact (congrArg Prod.fst hx)
  have hx2 : l = xs.map (·.1) := by injection hx'
  have hj2 := hlj j hj
  rw [hx2, List.getElem?_map] at hj2
  cases hxj : xs[j]? with
  | none => rw [hxj] at hj2; cases hj2
  | some y =>
    rw [hxj] at hj2
    have he := hel j hj
    rw [hxj, c5, Nat.mul_one] at he
    have hlen' : cs.toList.length = 64 := by rw [hlen, c322]
    have hcj : (cs.toList.drop j).take 1 = [cs.toList[j]'(by omega)] := by
      rw [List.take_one, List.head?_drop, List.getElem?_eq_getElem (by omega)]; rfl
    rw [hcj] at he
    obtain ⟨k, e1, e2, _⟩ := DataW.trod_int (Tys.Of.fits tys_of (t := 5) (y := y5) rfl).ud he
    rw [List.getElem?_eq_getElem (by omega)]
    have e3 : cs.toList[j]'(by omega) = .int .u8 k := by injection e1
    rw [e3]
    have e4 : y.1 = .lit (.int .u8 k) := by rw [e2]
    have e5 : y.1 = .lit (.int .u8 (Lib.deBruijn64tab.getD j 0 : Nat)) := Option.some.inj hj2
    rw [e4] at e5
    injection e5 with e5
    injection e5 with _ e5
    rw [e5]
end Go.Sl.Tz

/-
  THE ROW OF OpNone, AND ITS TIED CARD: for whatever layout and acts, the law returns true and what came in reads as it did.
-/
namespace Go.Sl.Tz
open Go Go.Proofs Go.Sl Go.Proofs.YtjifmcdlbffemaaGreatDoor
open Go.ChangeShapes Go.WideShapes Go.ChangeAt Go.WideMaps Go.WideElems Go.RowKit
set_option maxRecDepth 100000

theorem ownT : ownKnob prog.godebug = none := by kernel_rfl
theorem door_met (os : Os) (args : Array Value) : laidMetH prog laidT ((World.doorLaid prog 400 os).forCall (fun _ _ => 0) ⟨#[], args, []⟩).memory :=
  laidMetH_of_parts3 (fuel := 8) (laidMet_of_run' 8 (by kernel_rfl) (by kernel_rfl)) (by kernel_rfl) (by kernel_rfl)
/-- A reading depends on the heap alone. -/
theorem trod_heap {H : Type} {enc : TypeId × Value → H} {W W' : World} (hw : W'.heap = W.heap) {base : Nat} {sp : Nat → Bool} {held : Bool} {t : TypeId} {v : Value} {d : DataW H} {p : List MemPlace}
    (h : DataW.Trod enc prog W base sp held t v d p) : DataW.Trod enc prog W' base sp held t v d p := by
  exact DataW.Trod.of_heap hw.symm h
/-- WHAT A CALL THAT LEAVES ALL AS IT WAS OWES THE ROW: a result that is a plain truth value, arguments that read as they did. -/
theorem post_true {H : Type} {enc : TypeId × Value → H} {f : Func} {s : ChangeSpec} {W W' : World} {args : Array Value} {ds : List (DataW H)} {before : List MemPlace} (hvars : s.vars = [])
    (hres : f.resultTypes = #[4]) (hr : ∀ t ∈ f.params.toList, prog.readableRec t = true ∧ t < prog.types.size)
    (hW : DataW.Whole enc prog f.params.toList s.vars false W args.toList ds [] before) (hO : Old W W')
    (hfn : s.fn H ds = { results := [.lit (.bool true)], args := ds }) :
    s.post enc prog f false true false false W args (.bool true) W' := by
  have hlt0 := hW.lt
  have hW' := hW
  obtain ⟨p, q, hA, hV, rfl, hz, hn⟩ := hW
  rw [hvars] at hV
  obtain ⟨-, rfl⟩ := trodVars_none hV
  rw [List.append_nil] at hlt0 hW' hz
  have hargs : ∀ sp : Nat → Bool, (∀ x ∈ p, sp x.block = true) → DataW.TrodAll enc prog W' 0 sp true f.params.toList args.toList ds p := by
    intro sp hsp
    have key : ∀ (ts : List TypeId) (vs : List Value) (ds : List (DataW H)) (ps : List MemPlace), (∀ t ∈ ts, prog.readableRec t = true ∧ t < prog.types.size) → (∀ x ∈ ps, x.block < W.heap.size) → (∀ x ∈ ps, sp x.block = true) →
        DataW.TrodAll enc prog W 0 (fun _ => true) true ts vs ds ps → DataW.TrodAll enc prog W' 0 sp true ts vs ds ps := by
      intro ts
      induction ts with
      | nil =>
        intro vs ds ps _ _ _ h
        obtain ⟨rfl, rfl, rfl⟩ := trodAll_nil h
        exact h
      | cons t ts ih =>
        intro vs ds ps hts hl hs h
        obtain ⟨v, vs1, d, ds1, a, b, rfl, rfl, rfl, h1, h2⟩ := trodAll_cons h
        have ht := hts t (List.mem_cons_self ..)
        refine ⟨a, b, ?_, ih _ _ _ (fun t h => hts t (List.mem_cons_of_mem _ h)) (fun x hx => hl x (List.mem_append_right _ hx)) (fun x hx => hs x (List.mem_append_right _ hx)) h2, rfl⟩
        exact trod_heap (W := { W' with tape := W.tape }) (W' := W') rfl (WideElems.Trod_stays laidOutT ht.1 ht.2 h1 (fun x hx => hO.below.same (hl x (List.mem_append_left _ hx))) (fun x hx => hs x (List.mem_append_left _ hx)))
    exact key _ _ _ _ hr hlt0 hsp hA
  have hbool : ∀ (b : Nat) (sp : Nat → Bool) (hd : Bool), DataW.TrodAll enc prog W' b sp hd f.resultTypes.toList ((Value.bool true).resultList f.resultTypes.size) [.lit (.bool true)] [] := by
    intro b sp hd
    rw [hres]
    exact trodAll_mk1 (shut_bool (by kernel_rfl) true)
  have hfr : ∀ x ∈ p, W'.frozen? ⟨x.block, 0, none⟩ = W.frozen? ⟨x.block, 0, none⟩ := fun x hx => by
    unfold World.frozen?; rw [hO.block _ (hlt0 x hx)]
  have hold : ∀ x ∈ p, (fun b => decide (b < W.heap.size)) x.block = true := fun x hx => by simpa using hlt0 x hx
  have hvar : ∀ sp : Nat → Bool, DataW.TrodVars enc prog W' sp s.vars ([] : List (DataW H)) [] := fun sp => by rw [hvars]; exact rfl
  have e0 : ds ++ ([] : List (DataW H)) = ds := List.append_nil _
  refine ⟨ds, [], p, [], p, [], hW', ?_, ?_, ?_, hO.kept _, fun h => by cases h⟩
  · rw [e0, hfn]; exact hbool _ _ _
  · rw [e0, hfn]; exact hargs _ hold
  · rw [e0, hfn]; exact hvar _
theorem lifted_none (os : Os) (started : os.Started) (H : Type) (enc : TypeId × Value → H) :
    ReturnsInHanded {} Tryz.checked os F_turnrowlaw19_OpNone .any (fun w args => (Rows.opNoneSpec.pre enc prog Tryz.f7 [] false w args ∧ laidMetH prog laidT w) ∧ sizedMet enc prog Tryz.f7 (OpenSpec.ofChange Rows.opNoneSpec) false w args)
      (Rows.opNoneSpec.post enc prog Tryz.f7 false true false false) := by
  refine returnsInHanded_of_change_and (C := Tryz.checked) (X := fun w _ => laidMetH prog laidT w) (fun _ _ _ hh h => h.of_heap hh) ownT started (by kernel_rfl) Tryz.func7
    (ChangeSpec.witness_shaped (enc := enc) (C := Tryz.checked) (os := os) (X := fun w _ => laidMetH prog laidT w) false (World.doorLaid prog 400 os) #[.agg #[.int .i64 0, .int .i64 0, .int .i64 0], .slice none 0 0] 8 rfl (World.shaped_of_RefB (by kernel_rfl) (by kernel_rfl)) (by kernel_rfl) (by kernel_rfl) (by kernel_rfl) (door_met os _)) ?_
  intro W base args ds gs before hval0 hW _ _ hL _
  have hval : ∀ (j : Nat) t v, Tryz.f7.params[j]? = some t → args[j]? = some v → Value.okWide prog W .any base t v := hval0
  have hW' := hW
  obtain ⟨p, q, hA0, hV, rfl, hfz, hnd⟩ := hW
  have hA : DataW.TrodAll enc prog W 0 (fun _ => true) true Tryz.f7.params.toList args.toList ds p := hA0
  rw [Tryz.params7] at hA hval
  obtain ⟨v0, v1, d0, d1, p0, p1, rfl, rfl, rfl, h0, h1⟩ := trodAll_two hA
  obtain ⟨rfl, rfl⟩ := trodVars_none hV
  have okv : Value.okWide prog W .any base 23 v0 := hval 0 23 v0 rfl rfl
  obtain ⟨c0, c1, c2, y0, y1, y2, n, rfl, rfl, hp, e0, e1, e2⟩ := Joins.open_agg3 (Tys.Of.fits tys_of (t := 23) (y := y23) rfl).ud (by kernel_rfl) (by kernel_rfl) okv h0
  obtain ⟨a, f0, -, -⟩ := DataW.trod_int (Tys.Of.fits tys_of (t := 3) (y := y3) rfl).ud e0
  obtain ⟨b, f1, -, -⟩ := DataW.trod_int (Tys.Of.fits tys_of (t := 3) (y := y3) rfl).ud e1
  obtain ⟨c, f2, -, -⟩ := DataW.trod_int (Tys.Of.fits tys_of (t := 3) (y := y3) rfl).ud e2
  obtain rfl := (List.cons.inj f0).1
  obtain rfl := (List.cons.inj f1).1
  obtain rfl := (List.cons.inj f2).1
  refine (calls_of (none_fn _ (tab_of_laid hL) a b c v1)).mono fun e W' hx => ?_
  obtain ⟨-, -, rfl, hO⟩ := hx
  refine ⟨_, rfl, ?_⟩
  exact post_true rfl (by kernel_rfl) (of_decide_eq_true (by kernel_rfl)) (by have h : DataW.Whole enc Tryz.checked.prog [23, 25] Rows.opNoneSpec.vars false W _ _ [] ((p0 ++ p1) ++ []) := hW'; exact h) hO rfl

theorem opNone_holds : Rows.OpNoneSaid :=
  OpenClaim.holds_of_wide 7 Tryz.f7 rfl rfl rfl rfl rfl rfl rfl ⟨rfl, rfl, rfl, rfl, rfl⟩ rfl rfl rfl rfl rfl (by kernel_rfl) Tryz.func7 (by kernel_rfl)
    (of_decide_eq_true (by kernel_rfl)) (by unfold Func.isWrapper; first | (rw [if_pos (by decide +kernel)]; kernel_rfl) | (rw [if_neg (by decide +kernel)]; exact ⟨rfl, rfl⟩))
    (fun os started H enc _ => lifted_none os started H enc)
theorem opNoneCard_holds : Rows.OpNoneCardSaid :=
  Claim7.holds_tied_plain_at .later [] [.data] true (true, "b993252538130a0f65b276ffdda89ef7c9f24a3aa7f278abceb4b9239983d801") false
    opNone_holds (fun _ h => by cases h) (by kernel_rfl) (fun _ h => by cases h) opNone_row_tie rfl ⟨rfl, rfl⟩ (by kernel_rfl) rfl
    (fun f fn hf hfn => by
      obtain rfl : f = 7 := Option.some.inj ((show Tryz.prog.funcNamed "turnrow/turnrowlaw19.OpNone" = some 7 by kernel_rfl).symm.trans hf) |>.symm
      obtain rfl : fn = Tryz.f7 := (Option.some.inj (Tryz.func7.symm.trans hfn)).symm
      exact ⟨by kernel_rfl, fun j t ht => by
        rw [Tryz.params7] at ht
        have hm : t ∈ [23, 25] := by simpa using Array.mem_of_getElem? ht
        have hall : ([23, 25].all fun u => !Tryz.prog.wantsStandIn u) = true := by kernel_rfl
        exact (show Tryz.prog.wantsStandIn t = false by simpa using List.all_eq_true.1 hall t hm)⟩)
    (by kernel_rfl)
end Go.Sl.Tz

namespace Go.Proofs.YtjifmcdlbffemaaGreatDoor
/-- The law OpNone answers true for every layout and every acts, and what came in reads as it did; the table of bits.Len64 is tied to the program's text. -/
theorem opNone_card : Rows.OpNoneCardSaid := Go.Sl.Tz.opNoneCard_holds
end Go.Proofs.YtjifmcdlbffemaaGreatDoor
#print axioms Go.Proofs.YtjifmcdlbffemaaGreatDoor.opNone_card
