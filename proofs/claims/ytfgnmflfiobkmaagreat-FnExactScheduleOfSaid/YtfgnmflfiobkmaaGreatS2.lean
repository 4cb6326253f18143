/-
  What is proved: for every circuit, the program's ScheduleOf answers as the reference's does, leaves its argument as it was, and returns memory of its own. Conditions: none.
-/
import Derived.Test.YtfgnmflfiobkmaaGreatS1
set_option linter.unusedVariables false
set_option linter.unusedSimpArgs false
set_option maxRecDepth 4000
namespace Go.Proofs.YtfgnmflfiobkmaaGreat
open Go.RowKit
theorem F233 (w0 : World) (x : Rg) (m : Int) (hm : m ≤ 1000) : Ret Tryz.prog 233 [.agg #[.int .i64 x.a, .int .i64 x.b, .int .i64 x.c, .int .i64 x.d], .int .i64 m] w0 (fun v w => v = dV (dLow x m) ∧ Below w0.heap.size w0 w) := by
 refine enter Tryz.func233 rfl 18 rfl rfl ?_
 intro a hf
 have hW : Below w0.heap.size w0 w0 := Below.refl _ _
 refine wp_seq_k ?_; intro K1 hK1
 refine wp_region_lit ?_
 refine l_f hf rfl (ef_box (zs := [.int .i64 x.a, .int .i64 x.b, .int .i64 x.c, .int .i64 x.d]) hf rfl rfl) ?_; rintro a _ w1 ⟨b2, rfl, hl2, hE, hB2⟩ hf
 have hlo2 := Nat.le_trans hW.size hl2
 replace hW := btr hW hE
 clear hE
 refine l_f hf rfl (ef_alloc (zs := [.int .i64 0, .int .i64 0, .int .i64 0, .int .i64 0, .int .i64 0]) z_189 rfl) ?_; rintro a _ w2 ⟨b3, rfl, hl3, hE, hB3⟩ hf
 have hlo3 := Nat.le_trans hW.size hl3
 replace hB2 := hB2.below hE
 replace hW := btr hW hE
 clear hE
 refine wpList_nil ?_
 refine hK1 _ _ ?_; try clear hK1 K1
 refine wp_seq_k ?_; intro K4 hK4
 refine wp_block ?_
 refine c_loop (σ := Rg × Int) (fun (s : Rg × Int) (a : Act) (w : World) => match s with | (y, j) => Fr a 18 [(1, .int .i64 j), (2, .pointer (some ⟨b2, 0, none⟩)), (4, .pointer (some ⟨b3, 0, none⟩))] ∧ (dLow y j = dLow x m) ∧ (j ≤ 1000) ∧ Blk w b2 187 [.int .i64 y.a, .int .i64 y.b, .int .i64 y.c, .int .i64 y.d] ∧ Blk w b3 189 [.int .i64 0, .int .i64 0, .int .i64 0, .int .i64 0, .int .i64 0] ∧ Below w0.heap.size w0 w) (fun (s : Rg × Int) => match s with | (y, j) => j.toNat) (x, m) ?_ ?_
 · exact ⟨hf.sub ⟨rfl, rfl, rfl, trivial⟩, rfl, hm, hB2, hB3, hW⟩
 rintro ⟨y, j⟩ a w3 ⟨hf, hinv, hjm, hB2, hB3, hW⟩
 refine wp_seq_k ?_; intro K5 hK5
 refine wp_seq_k ?_; intro K6 hK6
 refine c_cut (fun a w => Fr a 18 [(1, .int .i64 j), (2, .pointer (some ⟨b2, 0, none⟩)), (4, .pointer (some ⟨b3, 0, none⟩)), (10, .bool ((decide (0 < j)) && (rEven y)))] ∧ Below w3.heap.size w3 w) ?_ ?_
 ·have hEc : Below w3.heap.size w3 w3 := Below.refl _ _
  refine wp_region_lit ?_
  refine l_mv hf rfl rfl ?_; intro a hf
  refine l_e hf rfl (ev_gtr hf rfl rfl) ?_; intro a hf
  refine l_mv hf rfl rfl ?_; intro a hf
  refine g_split hf (t := 7) rfl (fun hg7 => ?_) (fun hg7 => ?_)
  ·refine l_ev hf ⟨_, _, rfl, rfl, hg7⟩ rfl rfl (ev_loadN (l := [.int .i64 y.a, .int .i64 y.b, .int .i64 y.c, .int .i64 y.d]) hf rfl tN_187 (hB2.at 0) rfl) ?_; intro a hf
   refine l_eff hf ⟨_, _, rfl, rfl, hg7⟩ rfl rfl (ef_call (vs := [.agg #[.int .i64 y.a, .int .i64 y.b, .int .i64 y.c, .int .i64 y.d]]) hf rfl ff_246 (F246 _ y)) ?_; rintro a _ w4 ⟨rfl, hE⟩ hf
   replace hB2 := hB2.below hE
   replace hB3 := hB3.below hE
   replace hW := btr hW hE
   replace hEc := btr hEc hE
   clear hE
   refine l_e hf rfl (ev_pickT hf rfl hg7 rfl) ?_; intro a hf
   refine wpList_nil ?_
   have hEE : Below w3.heap.size w3 w4 := hEc
   exact ⟨hf.sub ⟨rfl, rfl, rfl, look_bool rfl (by first | rfl | (simp only [hg7, Bool.true_and, Bool.false_and, Bool.true_or, Bool.false_or]; done) | simp [hg7]), trivial⟩, hEE⟩
  refine l_pass hf ⟨_, _, rfl, rfl, hg7⟩ rfl rfl ?_; intro a hf
  refine l_pass hf ⟨_, _, rfl, rfl, hg7⟩ rfl rfl ?_; intro a hf
  refine l_e hf rfl (ev_pickF hf rfl hg7 rfl) ?_; intro a hf
  refine wpList_nil ?_
  have hEE : Below w3.heap.size w3 w3 := hEc
  exact ⟨hf.sub ⟨rfl, rfl, rfl, look_bool rfl (by first | rfl | (simp only [hg7, Bool.true_and, Bool.false_and, Bool.true_or, Bool.false_or]; done) | simp [hg7]), trivial⟩, hEE⟩
 rintro a w5 ⟨hf, hE⟩
 replace hB2 := hB2.below hE
 replace hB3 := hB3.below hE
 replace hW := btr hW hE
 clear hE
 refine hK6 _ _ ?_; try clear hK6 K6
 refine c_if hf rfl (fun hc8 => ?_) (fun hc8 => ?_)
 ·have hc8b := hc8
  have hj0 : 0 < j := by revert hc8; simp; omega
  have hev : rEven y = true := by revert hc8; cases rEven y <;> simp
  refine wp_skip ?_
  refine hK5 _ _ ?_; try clear hK5 K5
  refine wp_block ?_
  refine wp_seq_k ?_; intro K9 hK9
  refine wp_region_lit ?_
  refine l_e hf rfl (ev_loadN (l := [.int .i64 y.a, .int .i64 y.b, .int .i64 y.c, .int .i64 y.d]) hf rfl tN_187 (hB2.at 0) rfl) ?_; intro a hf
  refine l_f hf rfl (ef_call (vs := [.agg #[.int .i64 y.a, .int .i64 y.b, .int .i64 y.c, .int .i64 y.d]]) hf rfl ff_247 (F247 _ y)) ?_; rintro a _ w6 ⟨rfl, hE⟩ hf
  replace hB2 := hB2.below hE
  replace hB3 := hB3.below hE
  replace hW := btr hW hE
  clear hE
  refine l_f0 hf (ef_store (vs := [.int .i64 ((rHalf y).a), .int .i64 ((rHalf y).b), .int .i64 ((rHalf y).c), .int .i64 ((rHalf y).d)]) (l' := [.int .i64 ((rHalf y).a), .int .i64 ((rHalf y).b), .int .i64 ((rHalf y).c), .int .i64 ((rHalf y).d)]) hf rfl rfl sz_187 hB2 rfl rfl rfl rfl rfl) ?_; rintro a _ w7 ⟨ho, hb⟩ hf
  have hold := hB2
  replace hB3 := hB3.only ho (Blk.ne hB3 hold rfl)
  replace hW := Below.only hW ho hlo2
  clear hold
  have hB2 := hb
  clear hb ho
  refine wpList_nil ?_
  refine hK9 _ _ ?_; try clear hK9 K9
  refine wp_region_lit ?_
  refine l_mv hf rfl rfl ?_; intro a hf
  refine l_e hf rfl (ev_subx hf rfl rfl (by omega) (by omega)) ?_; intro a hf
  refine l_as hf rfl rfl ?_; intro a hf
  refine wpList_nil ?_
  refine x_norm ?_
  refine x_thenN ?_
  exact ⟨(rHalf y, j - 1), ⟨hf.sub ⟨rfl, rfl, rfl, trivial⟩, (by rw [← hinv]; exact (dLow_step (by omega) hev).symm), (by omega), hB2, hB3, hW⟩, (by first | omega | (dsimp only; omega))⟩
 have hc8b := hc8
 have hst : dLow y j = ⟨y, j⟩ := dLow_stop (by intro h0; revert hc8; simp [h0])
 refine wp_exit ?_
 refine x_exS ?_
 refine x_exS ?_
 refine x_exit ?_
 refine hK4 _ _ ?_; try clear hK4 K4
 refine wp_seq_k ?_; intro K10 hK10
 refine wp_region_lit ?_
 refine l_e hf rfl (ev_loadN (l := [.int .i64 y.a, .int .i64 y.b, .int .i64 y.c, .int .i64 y.d]) hf rfl tN_187 (hB2.at 0) rfl) ?_; intro a hf
 refine l_mv hf rfl rfl ?_; intro a hf
 refine l_e hf rfl (ev_build (ps := [(0, .agg #[.int .i64 y.a, .int .i64 y.b, .int .i64 y.c, .int .i64 y.d]), (1, .int .i64 j)]) (cs := [.int .i64 y.a, .int .i64 y.b, .int .i64 y.c, .int .i64 y.d, .int .i64 j]) hf rfl (fun _ => by first | rfl | kernel_rfl)) ?_; intro a hf
 refine l_f0 hf (ef_store (vs := [.int .i64 y.a, .int .i64 y.b, .int .i64 y.c, .int .i64 y.d, .int .i64 j]) (l' := [.int .i64 y.a, .int .i64 y.b, .int .i64 y.c, .int .i64 y.d, .int .i64 j]) hf rfl rfl sz_189 hB3 rfl rfl rfl rfl rfl) ?_; rintro a _ w8 ⟨ho, hb⟩ hf
 have hold := hB3
 replace hB2 := hB2.only ho (Blk.ne hB2 hold rfl)
 replace hW := Below.only hW ho hlo3
 clear hold
 have hB3 := hb
 clear hb ho
 refine wpList_nil ?_
 refine hK10 _ _ ?_; try clear hK10 K10
 refine wp_ret ?_
 refine c_ret hf (res1 hf rfl (ResV.cellN (l := [.int .i64 y.a, .int .i64 y.b, .int .i64 y.c, .int .i64 y.d, .int .i64 j]) rfl tN_189 (hB3.at 0) rfl)) ?_
 refine ⟨?_, hW⟩
 rw [← hinv, hst]
theorem F243 (w0 : World) (x : Rg) : Ret Tryz.prog 243 [.agg #[.int .i64 x.a, .int .i64 x.b, .int .i64 x.c, .int .i64 x.d]] w0 (fun v w => v = .tuple #[rV (rDiv1 x), .bool (rDiv2 x)] ∧ Below w0.heap.size w0 w) := by
 refine enter Tryz.func243 rfl 43 rfl rfl ?_
 intro a hf
 have hW : Below w0.heap.size w0 w0 := Below.refl _ _
 refine wp_seq_k ?_; intro K1 hK1
 refine wp_region_lit ?_
 refine l_f hf rfl (ef_box (zs := [.int .i64 x.a, .int .i64 x.b, .int .i64 x.c, .int .i64 x.d]) hf rfl rfl) ?_; rintro a _ w1 ⟨b2, rfl, hl2, hE, hB2⟩ hf
 have hlo2 := Nat.le_trans hW.size hl2
 replace hW := btr hW hE
 clear hE
 refine l_f hf rfl (ef_alloc (zs := [.int .i64 0, .int .i64 0, .int .i64 0, .int .i64 0]) z_187 rfl) ?_; rintro a _ w2 ⟨b3, rfl, hl3, hE, hB3⟩ hf
 have hne2_3 : b2 ≠ b3 := by have := hB2.lt; omega
 have hlo3 := Nat.le_trans hW.size hl3
 replace hB2 := hB2.below hE
 replace hW := btr hW hE
 clear hE
 refine l_as hf rfl rfl ?_; intro a hf
 refine wpList_nil ?_
 refine hK1 _ _ ?_; try clear hK1 K1
 refine wp_seq_k ?_; intro K4 hK4
 refine wp_seq_k ?_; intro K5 hK5
 refine c_cut (fun a w => Fr a 43 [(1, .pointer (some ⟨b2, 0, none⟩)), (2, .pointer (some ⟨b3, 0, none⟩)), (11, .bool ((!(rOk x)) || (!(rEven x))))] ∧ Below w2.heap.size w2 w) ?_ ?_
 ·have hEc : Below w2.heap.size w2 w2 := Below.refl _ _
  refine wp_region_lit ?_
  refine l_e hf rfl (ev_loadN (l := [.int .i64 x.a, .int .i64 x.b, .int .i64 x.c, .int .i64 x.d]) hf rfl tN_187 (hB2.at 0) rfl) ?_; intro a hf
  refine l_f hf rfl (ef_call (vs := [.agg #[.int .i64 x.a, .int .i64 x.b, .int .i64 x.c, .int .i64 x.d]]) hf rfl ff_225 (F225 _ x)) ?_; rintro a _ w3 ⟨rfl, hE⟩ hf
  replace hB2 := hB2.below hE
  replace hB3 := hB3.below hE
  replace hW := btr hW hE
  replace hEc := btr hEc hE
  clear hE
  refine l_e hf rfl (ev_not hf rfl) ?_; intro a hf
  refine l_mv hf rfl rfl ?_; intro a hf
  refine g_split hf (t := 7) rfl (fun hg6 => ?_) (fun hg6 => ?_)
  ·refine l_pass hf ⟨_, _, rfl, rfl, hg6⟩ rfl rfl ?_; intro a hf
   refine l_pass hf ⟨_, _, rfl, rfl, hg6⟩ rfl rfl ?_; intro a hf
   refine l_pass hf ⟨_, _, rfl, rfl, hg6⟩ rfl rfl ?_; intro a hf
   refine l_e hf rfl (ev_pickT hf rfl hg6 rfl) ?_; intro a hf
   refine wpList_nil ?_
   have hEE : Below w2.heap.size w2 w3 := hEc
   exact ⟨hf.sub ⟨rfl, rfl, look_bool rfl (by first | rfl | (simp only [hg6, Bool.true_and, Bool.false_and, Bool.true_or, Bool.false_or]; done) | simp [hg6]), trivial⟩, hEE⟩
  refine l_ev hf ⟨_, _, rfl, rfl, hg6⟩ rfl rfl (ev_loadN (l := [.int .i64 x.a, .int .i64 x.b, .int .i64 x.c, .int .i64 x.d]) hf rfl tN_187 (hB2.at 0) rfl) ?_; intro a hf
  refine l_eff hf ⟨_, _, rfl, rfl, hg6⟩ rfl rfl (ef_call (vs := [.agg #[.int .i64 x.a, .int .i64 x.b, .int .i64 x.c, .int .i64 x.d]]) hf rfl ff_226 (F226 _ x)) ?_; rintro a _ w4 ⟨rfl, hE⟩ hf
  replace hB2 := hB2.below hE
  replace hB3 := hB3.below hE
  replace hW := btr hW hE
  replace hEc := btr hEc hE
  clear hE
  refine l_ev hf ⟨_, _, rfl, rfl, hg6⟩ rfl rfl (ev_not hf rfl) ?_; intro a hf
  refine l_e hf rfl (ev_pickF hf rfl hg6 rfl) ?_; intro a hf
  refine wpList_nil ?_
  have hEE : Below w2.heap.size w2 w4 := hEc
  exact ⟨hf.sub ⟨rfl, rfl, look_bool rfl (by first | rfl | (simp only [hg6, Bool.true_and, Bool.false_and, Bool.true_or, Bool.false_or]; done) | simp [hg6]), trivial⟩, hEE⟩
 rintro a w5 ⟨hf, hE⟩
 replace hB2 := hB2.below hE
 replace hB3 := hB3.below hE
 replace hW := btr hW hE
 clear hE
 refine hK5 _ _ ?_; try clear hK5 K5
 refine c_if hf rfl (fun hc7 => ?_) (fun hc7 => ?_)
 ·have hc7b := hc7
  have hn : rDiv2 x = false := by unfold rDiv2; revert hc7; cases rOk x <;> cases rEven x <;> simp
  refine wp_seq_k ?_; intro K8 hK8
  refine wp_region_lit ?_
  refine l_e hf rfl (ev_build (ps := []) (cs := [.int .i64 0, .int .i64 0, .int .i64 0, .int .i64 0]) hf rfl (fun _ => by first | rfl | kernel_rfl)) ?_; intro a hf
  refine l_f0 hf (ef_store (vs := [.int .i64 0, .int .i64 0, .int .i64 0, .int .i64 0]) (l' := [.int .i64 0, .int .i64 0, .int .i64 0, .int .i64 0]) hf rfl rfl sz_187 hB3 rfl rfl rfl rfl rfl) ?_; rintro a _ w6 ⟨ho, hb⟩ hf
  have hold := hB3
  replace hB2 := hB2.only ho (by omega)
  replace hW := Below.only hW ho hlo3
  clear hold
  have hB3 := hb
  clear hb ho
  refine l_as hf rfl rfl ?_; intro a hf
  refine wpList_nil ?_
  refine hK8 _ _ ?_; try clear hK8 K8
  refine wp_ret ?_
  refine x_retS ?_
  refine c_ret hf (res2 hf rfl (ResV.cellN (l := [.int .i64 0, .int .i64 0, .int .i64 0, .int .i64 0]) rfl tN_187 (hB3.at 0) rfl) rfl) ?_
  exact ⟨by simp [rDiv1, hn], hW⟩
 have hc7b := hc7
 have hy : (rOk x && rEven x) = true := by revert hc7; cases rOk x <;> cases rEven x <;> simp
 have hok : rOk x = true := by revert hy; cases rOk x <;> simp
 refine wp_skip ?_
 refine hK4 _ _ ?_; try clear hK4 K4
 refine wp_seq_k ?_; intro K9 hK9
 refine wp_region_lit ?_
 refine l_e hf rfl (ev_fieldB hf rfl fd_187_1 (m := 1) rfl) ?_; intro a hf
 refine l_e hf rfl (ev_load1 hf rfl t1_3 (hB2.at 1)) ?_; intro a hf
 refine l_e hf rfl (ev_fieldB hf rfl fd_187_3 (m := 3) rfl) ?_; intro a hf
 refine l_e hf rfl (ev_load1 hf rfl t1_3 (hB2.at 3)) ?_; intro a hf
 refine l_e hf rfl (ev_sub hf rfl rfl) ?_; intro a hf
 refine l_e hf rfl (ev_quo hf rfl rfl rfl) ?_; intro a hf
 refine l_e hf rfl (ev_fieldB hf rfl fd_187_0 (m := 0) rfl) ?_; intro a hf
 refine l_e hf rfl (ev_load1 hf rfl t1_3 (hB2.at 0)) ?_; intro a hf
 refine l_e hf rfl (ev_fieldB hf rfl fd_187_2 (m := 2) rfl) ?_; intro a hf
 refine l_e hf rfl (ev_load1 hf rfl t1_3 (hB2.at 2)) ?_; intro a hf
 refine l_e hf rfl (ev_add hf rfl rfl) ?_; intro a hf
 refine l_e hf rfl (ev_quo hf rfl rfl rfl) ?_; intro a hf
 refine l_e hf rfl (ev_fieldB hf rfl fd_187_1 (m := 1) rfl) ?_; intro a hf
 refine l_e hf rfl (ev_load1 hf rfl t1_3 (hB2.at 1)) ?_; intro a hf
 refine l_e hf rfl (ev_fieldB hf rfl fd_187_3 (m := 3) rfl) ?_; intro a hf
 refine l_e hf rfl (ev_load1 hf rfl t1_3 (hB2.at 3)) ?_; intro a hf
 refine l_e hf rfl (ev_add hf rfl rfl) ?_; intro a hf
 refine l_e hf rfl (ev_quo hf rfl rfl rfl) ?_; intro a hf
 refine l_e hf rfl (ev_fieldB hf rfl fd_187_2 (m := 2) rfl) ?_; intro a hf
 refine l_e hf rfl (ev_load1 hf rfl t1_3 (hB2.at 2)) ?_; intro a hf
 refine l_e hf rfl (ev_fieldB hf rfl fd_187_0 (m := 0) rfl) ?_; intro a hf
 refine l_e hf rfl (ev_load1 hf rfl t1_3 (hB2.at 0)) ?_; intro a hf
 refine l_e hf rfl (ev_sub hf rfl rfl) ?_; intro a hf
 refine l_e hf rfl (ev_quo hf rfl rfl rfl) ?_; intro a hf
 refine l_e hf rfl (ev_build (ps := [(0, .int .i64 (wr ((wr (x.b - x.d)).tdiv 2))), (1, .int .i64 (wr ((wr (x.a + x.c)).tdiv 2))), (2, .int .i64 (wr ((wr (x.b + x.d)).tdiv 2))), (3, .int .i64 (wr ((wr (x.c - x.a)).tdiv 2)))]) (cs := [.int .i64 (wr ((wr (x.b - x.d)).tdiv 2)), .int .i64 (wr ((wr (x.a + x.c)).tdiv 2)), .int .i64 (wr ((wr (x.b + x.d)).tdiv 2)), .int .i64 (wr ((wr (x.c - x.a)).tdiv 2))]) hf rfl (fun _ => by first | rfl | kernel_rfl)) ?_; intro a hf
 refine l_e hf rfl (ev_loadN (l := [.int .i64 x.a, .int .i64 x.b, .int .i64 x.c, .int .i64 x.d]) hf rfl tN_187 (hB2.at 0) rfl) ?_; intro a hf
 refine l_f hf rfl (ef_buildSlice (k := 1) (vs := [.agg #[.int .i64 x.a, .int .i64 x.b, .int .i64 x.c, .int .i64 x.d]]) (zs := [.int .i64 x.a, .int .i64 x.b, .int .i64 x.c, .int .i64 x.d]) hf rfl sl_278 inf_187 rfl rfl) ?_; rintro a _ w7 ⟨b10, rfl, hl10, hE, hB10⟩ hf
 have hne2_10 : b2 ≠ b10 := by have := hB2.lt; omega
 have hne3_10 : b3 ≠ b10 := by have := hB3.lt; omega
 have hlo10 := Nat.le_trans hW.size hl10
 replace hB2 := hB2.below hE
 replace hB3 := hB3.below hE
 replace hW := btr hW hE
 clear hE
 refine l_f hf rfl (ef_call (vs := [.agg #[.int .i64 (wr ((wr (x.b - x.d)).tdiv 2)), .int .i64 (wr ((wr (x.a + x.c)).tdiv 2)), .int .i64 (wr ((wr (x.b + x.d)).tdiv 2)), .int .i64 (wr ((wr (x.c - x.a)).tdiv 2))], .slice (some ⟨b10, 0, none⟩) ([x]).length 1]) hf rfl ff_242 (F242 _ (⟨wr ((wr (x.b - x.d)).tdiv 2), wr ((wr (x.a + x.c)).tdiv 2), wr ((wr (x.b + x.d)).tdiv 2), wr ((wr (x.c - x.a)).tdiv 2)⟩ : Rg) (some ⟨b10, 0, none⟩) 1 ([x]) (Rd.of_blk hB10 rfl _ hB10.lt) rfl (by simp) (by simp))) ?_; rintro a _ w8 ⟨rfl, hE⟩ hf
 replace hB2 := hB2.below hE
 replace hB3 := hB3.below hE
 replace hB10 := hB10.below hE
 replace hW := btr hW hE
 clear hE
 refine l_e hf rfl (ev_extract (vs := [.agg #[.int .i64 ((rIf1 (⟨wr ((wr (x.b - x.d)).tdiv 2), wr ((wr (x.a + x.c)).tdiv 2), wr ((wr (x.b + x.d)).tdiv 2), wr ((wr (x.c - x.a)).tdiv 2)⟩ : Rg) ([x])).a), .int .i64 ((rIf1 (⟨wr ((wr (x.b - x.d)).tdiv 2), wr ((wr (x.a + x.c)).tdiv 2), wr ((wr (x.b + x.d)).tdiv 2), wr ((wr (x.c - x.a)).tdiv 2)⟩ : Rg) ([x])).b), .int .i64 ((rIf1 (⟨wr ((wr (x.b - x.d)).tdiv 2), wr ((wr (x.a + x.c)).tdiv 2), wr ((wr (x.b + x.d)).tdiv 2), wr ((wr (x.c - x.a)).tdiv 2)⟩ : Rg) ([x])).c), .int .i64 ((rIf1 (⟨wr ((wr (x.b - x.d)).tdiv 2), wr ((wr (x.a + x.c)).tdiv 2), wr ((wr (x.b + x.d)).tdiv 2), wr ((wr (x.c - x.a)).tdiv 2)⟩ : Rg) ([x])).d)], .bool (rIf2 (⟨wr ((wr (x.b - x.d)).tdiv 2), wr ((wr (x.a + x.c)).tdiv 2), wr ((wr (x.b + x.d)).tdiv 2), wr ((wr (x.c - x.a)).tdiv 2)⟩ : Rg) ([x]))]) hf rfl rfl) ?_; intro a hf
 refine l_e hf rfl (ev_extract (vs := [.agg #[.int .i64 ((rIf1 (⟨wr ((wr (x.b - x.d)).tdiv 2), wr ((wr (x.a + x.c)).tdiv 2), wr ((wr (x.b + x.d)).tdiv 2), wr ((wr (x.c - x.a)).tdiv 2)⟩ : Rg) ([x])).a), .int .i64 ((rIf1 (⟨wr ((wr (x.b - x.d)).tdiv 2), wr ((wr (x.a + x.c)).tdiv 2), wr ((wr (x.b + x.d)).tdiv 2), wr ((wr (x.c - x.a)).tdiv 2)⟩ : Rg) ([x])).b), .int .i64 ((rIf1 (⟨wr ((wr (x.b - x.d)).tdiv 2), wr ((wr (x.a + x.c)).tdiv 2), wr ((wr (x.b + x.d)).tdiv 2), wr ((wr (x.c - x.a)).tdiv 2)⟩ : Rg) ([x])).c), .int .i64 ((rIf1 (⟨wr ((wr (x.b - x.d)).tdiv 2), wr ((wr (x.a + x.c)).tdiv 2), wr ((wr (x.b + x.d)).tdiv 2), wr ((wr (x.c - x.a)).tdiv 2)⟩ : Rg) ([x])).d)], .bool (rIf2 (⟨wr ((wr (x.b - x.d)).tdiv 2), wr ((wr (x.a + x.c)).tdiv 2), wr ((wr (x.b + x.d)).tdiv 2), wr ((wr (x.c - x.a)).tdiv 2)⟩ : Rg) ([x]))]) hf rfl rfl) ?_; intro a hf
 refine l_f0 hf (ef_store (vs := [.int .i64 ((rIf1 (⟨wr ((wr (x.b - x.d)).tdiv 2), wr ((wr (x.a + x.c)).tdiv 2), wr ((wr (x.b + x.d)).tdiv 2), wr ((wr (x.c - x.a)).tdiv 2)⟩ : Rg) ([x])).a), .int .i64 ((rIf1 (⟨wr ((wr (x.b - x.d)).tdiv 2), wr ((wr (x.a + x.c)).tdiv 2), wr ((wr (x.b + x.d)).tdiv 2), wr ((wr (x.c - x.a)).tdiv 2)⟩ : Rg) ([x])).b), .int .i64 ((rIf1 (⟨wr ((wr (x.b - x.d)).tdiv 2), wr ((wr (x.a + x.c)).tdiv 2), wr ((wr (x.b + x.d)).tdiv 2), wr ((wr (x.c - x.a)).tdiv 2)⟩ : Rg) ([x])).c), .int .i64 ((rIf1 (⟨wr ((wr (x.b - x.d)).tdiv 2), wr ((wr (x.a + x.c)).tdiv 2), wr ((wr (x.b + x.d)).tdiv 2), wr ((wr (x.c - x.a)).tdiv 2)⟩ : Rg) ([x])).d)]) (l' := [.int .i64 ((rIf1 (⟨wr ((wr (x.b - x.d)).tdiv 2), wr ((wr (x.a + x.c)).tdiv 2), wr ((wr (x.b + x.d)).tdiv 2), wr ((wr (x.c - x.a)).tdiv 2)⟩ : Rg) ([x])).a), .int .i64 ((rIf1 (⟨wr ((wr (x.b - x.d)).tdiv 2), wr ((wr (x.a + x.c)).tdiv 2), wr ((wr (x.b + x.d)).tdiv 2), wr ((wr (x.c - x.a)).tdiv 2)⟩ : Rg) ([x])).b), .int .i64 ((rIf1 (⟨wr ((wr (x.b - x.d)).tdiv 2), wr ((wr (x.a + x.c)).tdiv 2), wr ((wr (x.b + x.d)).tdiv 2), wr ((wr (x.c - x.a)).tdiv 2)⟩ : Rg) ([x])).c), .int .i64 ((rIf1 (⟨wr ((wr (x.b - x.d)).tdiv 2), wr ((wr (x.a + x.c)).tdiv 2), wr ((wr (x.b + x.d)).tdiv 2), wr ((wr (x.c - x.a)).tdiv 2)⟩ : Rg) ([x])).d)]) hf rfl rfl sz_187 hB3 rfl rfl rfl rfl rfl) ?_; rintro a _ w9 ⟨ho, hb⟩ hf
 have hold := hB3
 replace hB2 := hB2.only ho (by omega)
 replace hB10 := hB10.only ho (by omega)
 replace hW := Below.only hW ho hlo3
 clear hold
 have hB3 := hb
 clear hb ho
 refine l_as hf rfl rfl ?_; intro a hf
 refine wpList_nil ?_
 refine hK9 _ _ ?_; try clear hK9 K9
 refine wp_ret ?_
 refine c_ret hf (res2 hf rfl (ResV.cellN (l := [.int .i64 ((rIf1 (⟨wr ((wr (x.b - x.d)).tdiv 2), wr ((wr (x.a + x.c)).tdiv 2), wr ((wr (x.b + x.d)).tdiv 2), wr ((wr (x.c - x.a)).tdiv 2)⟩ : Rg) ([x])).a), .int .i64 ((rIf1 (⟨wr ((wr (x.b - x.d)).tdiv 2), wr ((wr (x.a + x.c)).tdiv 2), wr ((wr (x.b + x.d)).tdiv 2), wr ((wr (x.c - x.a)).tdiv 2)⟩ : Rg) ([x])).b), .int .i64 ((rIf1 (⟨wr ((wr (x.b - x.d)).tdiv 2), wr ((wr (x.a + x.c)).tdiv 2), wr ((wr (x.b + x.d)).tdiv 2), wr ((wr (x.c - x.a)).tdiv 2)⟩ : Rg) ([x])).c), .int .i64 ((rIf1 (⟨wr ((wr (x.b - x.d)).tdiv 2), wr ((wr (x.a + x.c)).tdiv 2), wr ((wr (x.b + x.d)).tdiv 2), wr ((wr (x.c - x.a)).tdiv 2)⟩ : Rg) ([x])).d)]) rfl tN_187 (hB3.at 0) rfl) rfl) ?_
 refine ⟨?_, hW⟩
 have hd : rDiv2 x = true := hy
 have h2 := rIf_half hok
 show Value.tuple #[rV (rIf1 (rHalf x) [x]), .bool (rIf2 (rHalf x) [x])] = _
 rw [rIf1, h2, rDiv1, hd]
theorem F197 (w0 : World) (x : Rg) (k : Int) : Ret Tryz.prog 197 [.agg #[.int .i64 x.a, .int .i64 x.b, .int .i64 x.c, .int .i64 x.d], .int .i64 k] w0 (fun v w => v = .tuple #[rV (mulOm1 x k), .bool (mulOm2 x k)] ∧ Below w0.heap.size w0 w) := by
 refine enter Tryz.func197 rfl 33 rfl rfl ?_
 intro a hf
 have hW : Below w0.heap.size w0 w0 := Below.refl _ _
 refine wp_seq_k ?_; intro K1 hK1
 refine wp_region_lit ?_
 refine l_f hf rfl (ef_box (zs := [.int .i64 x.a, .int .i64 x.b, .int .i64 x.c, .int .i64 x.d]) hf rfl rfl) ?_; rintro a _ w1 ⟨b2, rfl, hl2, hE, hB2⟩ hf
 have hlo2 := Nat.le_trans hW.size hl2
 replace hW := btr hW hE
 clear hE
 refine l_f hf rfl (ef_alloc (zs := [.int .i64 0, .int .i64 0, .int .i64 0, .int .i64 0]) z_187 rfl) ?_; rintro a _ w2 ⟨b3, rfl, hl3, hE, hB3⟩ hf
 have hne2_3 : b2 ≠ b3 := by have := hB2.lt; omega
 have hlo3 := Nat.le_trans hW.size hl3
 replace hB2 := hB2.below hE
 replace hW := btr hW hE
 clear hE
 refine l_as hf rfl rfl ?_; intro a hf
 refine wpList_nil ?_
 refine hK1 _ _ ?_; try clear hK1 K1
 refine wp_seq_k ?_; intro K4 hK4
 refine wp_seq_k ?_; intro K5 hK5
 refine c_cut (fun a w => Fr a 33 [(1, .int .i64 k), (2, .pointer (some ⟨b2, 0, none⟩)), (4, .pointer (some ⟨b3, 0, none⟩)), (13, .bool ((!(inR k (-1000) 1000)) || (!(rOk x))))] ∧ Below w2.heap.size w2 w) ?_ ?_
 ·have hEc : Below w2.heap.size w2 w2 := Below.refl _ _
  refine wp_region_lit ?_
  refine l_mv hf rfl rfl ?_; intro a hf
  refine l_f hf rfl (ef_call (vs := [.int .i64 k, .int .i64 (-1000), .int .i64 1000]) hf rfl ff_91 (F91 _ k (-1000) 1000)) ?_; rintro a _ _ ⟨rfl, rfl⟩ hf
  refine l_e hf rfl (ev_not hf rfl) ?_; intro a hf
  refine l_mv hf rfl rfl ?_; intro a hf
  refine g_split hf (t := 9) rfl (fun hg6 => ?_) (fun hg6 => ?_)
  ·refine l_pass hf ⟨_, _, rfl, rfl, hg6⟩ rfl rfl ?_; intro a hf
   refine l_pass hf ⟨_, _, rfl, rfl, hg6⟩ rfl rfl ?_; intro a hf
   refine l_pass hf ⟨_, _, rfl, rfl, hg6⟩ rfl rfl ?_; intro a hf
   refine l_e hf rfl (ev_pickT hf rfl hg6 rfl) ?_; intro a hf
   refine wpList_nil ?_
   have hEE : Below w2.heap.size w2 w2 := hEc
   exact ⟨hf.sub ⟨rfl, rfl, rfl, look_bool rfl (by first | rfl | (simp only [hg6, Bool.true_and, Bool.false_and, Bool.true_or, Bool.false_or]; done) | simp [hg6]), trivial⟩, hEE⟩
  refine l_ev hf ⟨_, _, rfl, rfl, hg6⟩ rfl rfl (ev_loadN (l := [.int .i64 x.a, .int .i64 x.b, .int .i64 x.c, .int .i64 x.d]) hf rfl tN_187 (hB2.at 0) rfl) ?_; intro a hf
  refine l_eff hf ⟨_, _, rfl, rfl, hg6⟩ rfl rfl (ef_call (vs := [.agg #[.int .i64 x.a, .int .i64 x.b, .int .i64 x.c, .int .i64 x.d]]) hf rfl ff_225 (F225 _ x)) ?_; rintro a _ w3 ⟨rfl, hE⟩ hf
  replace hB2 := hB2.below hE
  replace hB3 := hB3.below hE
  replace hW := btr hW hE
  replace hEc := btr hEc hE
  clear hE
  refine l_ev hf ⟨_, _, rfl, rfl, hg6⟩ rfl rfl (ev_not hf rfl) ?_; intro a hf
  refine l_e hf rfl (ev_pickF hf rfl hg6 rfl) ?_; intro a hf
  refine wpList_nil ?_
  have hEE : Below w2.heap.size w2 w3 := hEc
  exact ⟨hf.sub ⟨rfl, rfl, rfl, look_bool rfl (by first | rfl | (simp only [hg6, Bool.true_and, Bool.false_and, Bool.true_or, Bool.false_or]; done) | simp [hg6]), trivial⟩, hEE⟩
 rintro a w4 ⟨hf, hE⟩
 replace hB2 := hB2.below hE
 replace hB3 := hB3.below hE
 replace hW := btr hW hE
 clear hE
 refine hK5 _ _ ?_; try clear hK5 K5
 refine c_if hf rfl (fun hc7 => ?_) (fun hc7 => ?_)
 ·have hc7b := hc7
  have hn : mulOm2 x k = false := by unfold mulOm2; revert hc7; cases inR k (-1000) 1000 <;> cases rOk x <;> simp
  refine wp_seq_k ?_; intro K8 hK8
  refine wp_region_lit ?_
  refine l_e hf rfl (ev_build (ps := []) (cs := [.int .i64 0, .int .i64 0, .int .i64 0, .int .i64 0]) hf rfl (fun _ => by first | rfl | kernel_rfl)) ?_; intro a hf
  refine l_f0 hf (ef_store (vs := [.int .i64 0, .int .i64 0, .int .i64 0, .int .i64 0]) (l' := [.int .i64 0, .int .i64 0, .int .i64 0, .int .i64 0]) hf rfl rfl sz_187 hB3 rfl rfl rfl rfl rfl) ?_; rintro a _ w5 ⟨ho, hb⟩ hf
  have hold := hB3
  replace hB2 := hB2.only ho (by omega)
  replace hW := Below.only hW ho hlo3
  clear hold
  have hB3 := hb
  clear hb ho
  refine l_as hf rfl rfl ?_; intro a hf
  refine wpList_nil ?_
  refine hK8 _ _ ?_; try clear hK8 K8
  refine wp_ret ?_
  refine x_retS ?_
  refine c_ret hf (res2 hf rfl (ResV.cellN (l := [.int .i64 0, .int .i64 0, .int .i64 0, .int .i64 0]) rfl tN_187 (hB3.at 0) rfl) rfl) ?_
  exact ⟨by simp [mulOm1, hn], hW⟩
 have hc7b := hc7
 have hy : mulOm2 x k = true := by unfold mulOm2; revert hc7; cases inR k (-1000) 1000 <;> cases rOk x <;> simp
 refine wp_skip ?_
 refine hK4 _ _ ?_; try clear hK4 K4
 refine wp_seq_k ?_; intro K9 hK9
 refine wp_seq_k ?_; intro K10 hK10
 refine wp_region_lit ?_
 refine l_mv hf rfl rfl ?_; intro a hf
 refine l_e hf rfl (ev_rem hf rfl rfl rfl) ?_; intro a hf
 refine l_e hf rfl (ev_add hf rfl rfl) ?_; intro a hf
 refine l_e hf rfl (ev_rem hf rfl rfl rfl) ?_; intro a hf
 refine l_mv hf rfl rfl ?_; intro a hf
 refine wpList_nil ?_
 refine hK10 _ _ ?_; try clear hK10 K10
 refine wp_block ?_
 have hj : turns k = ((turns k).toNat : Int) := by have := turns_bound k; omega
 have hj8 := (turns_bound k).2
 refine c_loop (σ := Rg × Nat) (fun (s : Rg × Nat) (a : Act) (w : World) => match s with | (y, j) => Fr a 33 [(2, .pointer (some ⟨b2, 0, none⟩)), (4, .pointer (some ⟨b3, 0, none⟩)), (18, .int .i64 ((wr ((k.tmod 8) + 8)).tmod 8)), (19, .int .i64 (j : Int))] ∧ (rTurnN ((turns k).toNat - j) y = rTurn x k) ∧ (j ≤ (turns k).toNat) ∧ Blk w b2 187 [.int .i64 y.a, .int .i64 y.b, .int .i64 y.c, .int .i64 y.d] ∧ Blk w b3 187 [.int .i64 0, .int .i64 0, .int .i64 0, .int .i64 0] ∧ Below w0.heap.size w0 w) (fun (s : Rg × Nat) => match s with | (y, j) => (turns k).toNat - j) (x, 0) ?_ ?_
 · exact ⟨hf.sub ⟨rfl, rfl, rfl, rfl, trivial⟩, rfl, (Nat.zero_le _), hB2, hB3, hW⟩
 rintro ⟨y, j⟩ a w6 ⟨hf, hinv, hj8, hB2, hB3, hW⟩
 refine wp_seq_k ?_; intro K11 hK11
 refine wp_region_lit ?_
 refine l_e hf rfl (ev_lss hf rfl rfl) ?_; intro a hf
 refine wpList_nil ?_
 refine hK11 _ _ ?_; try clear hK11 K11
 refine wp_seq_k ?_; intro K12 hK12
 refine c_if hf rfl (fun hc13 => ?_) (fun hc13 => ?_)
 ·have hc13b := hc13
  have hc13 := of_decide_eq_true hc13
  have hj1 : (j : Int) < turns k := hc13
  refine wp_skip ?_
  refine hK12 _ _ ?_; try clear hK12 K12
  refine wp_seq_k ?_; intro K14 hK14
  refine wp_block ?_
  refine wp_region_lit ?_
  refine l_e hf rfl (ev_fieldB hf rfl fd_187_3 (m := 3) rfl) ?_; intro a hf
  refine l_e hf rfl (ev_load1 hf rfl t1_3 (hB2.at 3)) ?_; intro a hf
  refine l_e hf rfl (ev_neg hf rfl) ?_; intro a hf
  refine l_e hf rfl (ev_fieldB hf rfl fd_187_0 (m := 0) rfl) ?_; intro a hf
  refine l_e hf rfl (ev_load1 hf rfl t1_3 (hB2.at 0)) ?_; intro a hf
  refine l_e hf rfl (ev_fieldB hf rfl fd_187_1 (m := 1) rfl) ?_; intro a hf
  refine l_e hf rfl (ev_load1 hf rfl t1_3 (hB2.at 1)) ?_; intro a hf
  refine l_e hf rfl (ev_fieldB hf rfl fd_187_2 (m := 2) rfl) ?_; intro a hf
  refine l_e hf rfl (ev_load1 hf rfl t1_3 (hB2.at 2)) ?_; intro a hf
  refine l_e hf rfl (ev_build (ps := [(0, .int .i64 (wr (-y.d))), (1, .int .i64 y.a), (2, .int .i64 y.b), (3, .int .i64 y.c)]) (cs := [.int .i64 (wr (-y.d)), .int .i64 y.a, .int .i64 y.b, .int .i64 y.c]) hf rfl (fun _ => by first | rfl | kernel_rfl)) ?_; intro a hf
  refine l_f0 hf (ef_store (vs := [.int .i64 (wr (-y.d)), .int .i64 y.a, .int .i64 y.b, .int .i64 y.c]) (l' := [.int .i64 (wr (-y.d)), .int .i64 y.a, .int .i64 y.b, .int .i64 y.c]) hf rfl rfl sz_187 hB2 rfl rfl rfl rfl rfl) ?_; rintro a _ w7 ⟨ho, hb⟩ hf
  have hold := hB2
  replace hB3 := hB3.only ho (by omega)
  replace hW := Below.only hW ho hlo2
  clear hold
  have hB2 := hb
  clear hb ho
  refine wpList_nil ?_
  refine x_norm ?_
  refine hK14 _ _ ?_; try clear hK14 K14
  refine wp_region_lit ?_
  refine l_e hf rfl (ev_addx hf rfl rfl (by omega) (by omega)) ?_; intro a hf
  refine l_mv hf rfl rfl ?_; intro a hf
  refine wpList_nil ?_
  refine x_thenN ?_
  exact ⟨(rOm y, j + 1), ⟨hf.sub ⟨rfl, rfl, rfl, rfl, trivial⟩, (by rw [← hinv]; obtain ⟨m, hm⟩ : ∃ m, (turns k).toNat - j = m + 1 := ⟨(turns k).toNat - j - 1, by omega⟩; rw [hm, show (turns k).toNat - (j + 1) = m from by omega]; rfl), (by omega), hB2, hB3, hW⟩, (by first | omega | (dsimp only; omega))⟩
 have hc13b := hc13
 have hc13 := of_decide_eq_false hc13
 have hj1 : ¬ (j : Int) < turns k := hc13
 refine wp_exit ?_
 refine x_exS ?_
 refine x_exS ?_
 refine x_exit ?_
 refine hK9 _ _ ?_; try clear hK9 K9
 refine wp_seq_k ?_; intro K15 hK15
 refine wp_region_lit ?_
 refine l_e hf rfl (ev_loadN (l := [.int .i64 y.a, .int .i64 y.b, .int .i64 y.c, .int .i64 y.d]) hf rfl tN_187 (hB2.at 0) rfl) ?_; intro a hf
 refine l_f0 hf (ef_store (vs := [.int .i64 y.a, .int .i64 y.b, .int .i64 y.c, .int .i64 y.d]) (l' := [.int .i64 y.a, .int .i64 y.b, .int .i64 y.c, .int .i64 y.d]) hf rfl rfl sz_187 hB3 rfl rfl rfl rfl rfl) ?_; rintro a _ w8 ⟨ho, hb⟩ hf
 have hold := hB3
 replace hB2 := hB2.only ho (by omega)
 replace hW := Below.only hW ho hlo3
 clear hold
 have hB3 := hb
 clear hb ho
 refine l_as hf rfl rfl ?_; intro a hf
 refine wpList_nil ?_
 refine hK15 _ _ ?_; try clear hK15 K15
 refine wp_ret ?_
 refine c_ret hf (res2 hf rfl (ResV.cellN (l := [.int .i64 y.a, .int .i64 y.b, .int .i64 y.c, .int .i64 y.d]) rfl tN_187 (hB3.at 0) rfl) rfl) ?_
 have hj0 : (turns k).toNat - j = 0 := by omega
 rw [hj0] at hinv
 refine ⟨?_, hW⟩
 rw [mulOm1, hy, if_pos rfl, ← hinv]; rfl
theorem F140 (w0 : World) (k : Int) (hk : inR k (-1000) 1000 = true) : Ret Tryz.prog 140 [.int .i64 k] w0 (fun v w => v = dV (dPow k) ∧ Below w0.heap.size w0 w) := by
 refine enter Tryz.func140 rfl 13 rfl rfl ?_
 intro a hf
 have hW : Below w0.heap.size w0 w0 := Below.refl _ _
 refine wp_seq_k ?_; intro K1 hK1
 refine wp_region_lit ?_
 refine l_f hf rfl (ef_alloc (zs := [.int .i64 0, .int .i64 0, .int .i64 0, .int .i64 0, .int .i64 0]) z_189 rfl) ?_; rintro a _ w1 ⟨b2, rfl, hl2, hE, hB2⟩ hf
 have hlo2 := Nat.le_trans hW.size hl2
 replace hW := btr hW hE
 clear hE
 refine wpList_nil ?_
 refine hK1 _ _ ?_; try clear hK1 K1
 refine wp_seq_k ?_; intro K3 hK3
 refine wp_region_lit ?_
 refine l_e hf rfl (ev_build (ps := [(0, .int .i64 1)]) (cs := [.int .i64 1, .int .i64 0, .int .i64 0, .int .i64 0]) hf rfl (fun _ => by first | rfl | kernel_rfl)) ?_; intro a hf
 refine l_mv hf rfl rfl ?_; intro a hf
 refine l_f hf rfl (ef_call (vs := [.agg #[.int .i64 1, .int .i64 0, .int .i64 0, .int .i64 0], .int .i64 k]) hf rfl ff_197 (F197 _ (⟨1, 0, 0, 0⟩ : Rg) k)) ?_; rintro a _ w2 ⟨rfl, hE⟩ hf
 replace hB2 := hB2.below hE
 replace hW := btr hW hE
 clear hE
 refine l_mv hf rfl rfl ?_; intro a hf
 refine l_e hf rfl (ev_extract (vs := [.agg #[.int .i64 ((mulOm1 (⟨1, 0, 0, 0⟩ : Rg) k).a), .int .i64 ((mulOm1 (⟨1, 0, 0, 0⟩ : Rg) k).b), .int .i64 ((mulOm1 (⟨1, 0, 0, 0⟩ : Rg) k).c), .int .i64 ((mulOm1 (⟨1, 0, 0, 0⟩ : Rg) k).d)], .bool (mulOm2 (⟨1, 0, 0, 0⟩ : Rg) k)]) hf rfl rfl) ?_; intro a hf
 refine l_e hf rfl (ev_extract (vs := [.agg #[.int .i64 ((mulOm1 (⟨1, 0, 0, 0⟩ : Rg) k).a), .int .i64 ((mulOm1 (⟨1, 0, 0, 0⟩ : Rg) k).b), .int .i64 ((mulOm1 (⟨1, 0, 0, 0⟩ : Rg) k).c), .int .i64 ((mulOm1 (⟨1, 0, 0, 0⟩ : Rg) k).d)], .bool (mulOm2 (⟨1, 0, 0, 0⟩ : Rg) k)]) hf rfl rfl) ?_; intro a hf
 refine l_f hf rfl (ef_alloc (zs := [.int .i64 0, .int .i64 0, .int .i64 0, .int .i64 0]) z_187 rfl) ?_; rintro a _ w3 ⟨b4, rfl, hl4, hE, hB4⟩ hf
 have hlo4 := Nat.le_trans hW.size hl4
 replace hB2 := hB2.below hE
 replace hW := btr hW hE
 clear hE
 refine l_f0 hf (ef_store (vs := [.int .i64 ((mulOm1 (⟨1, 0, 0, 0⟩ : Rg) k).a), .int .i64 ((mulOm1 (⟨1, 0, 0, 0⟩ : Rg) k).b), .int .i64 ((mulOm1 (⟨1, 0, 0, 0⟩ : Rg) k).c), .int .i64 ((mulOm1 (⟨1, 0, 0, 0⟩ : Rg) k).d)]) (l' := [.int .i64 ((mulOm1 (⟨1, 0, 0, 0⟩ : Rg) k).a), .int .i64 ((mulOm1 (⟨1, 0, 0, 0⟩ : Rg) k).b), .int .i64 ((mulOm1 (⟨1, 0, 0, 0⟩ : Rg) k).c), .int .i64 ((mulOm1 (⟨1, 0, 0, 0⟩ : Rg) k).d)]) hf rfl rfl sz_187 hB4 rfl rfl rfl rfl rfl) ?_; rintro a _ w4 ⟨ho, hb⟩ hf
 have hold := hB4
 replace hB2 := hB2.only ho (Blk.ne hB2 hold rfl)
 replace hW := Below.only hW ho hlo4
 clear hold
 have hB4 := hb
 clear hb ho
 refine l_as hf rfl rfl ?_; intro a hf
 refine wpList_nil ?_
 refine hK3 _ _ ?_; try clear hK3 K3
 refine wp_seq_k ?_; intro K5 hK5
 refine wp_region_lit ?_
 refine l_e hf rfl (ev_loadN (l := [.int .i64 ((mulOm1 (⟨1, 0, 0, 0⟩ : Rg) k).a), .int .i64 ((mulOm1 (⟨1, 0, 0, 0⟩ : Rg) k).b), .int .i64 ((mulOm1 (⟨1, 0, 0, 0⟩ : Rg) k).c), .int .i64 ((mulOm1 (⟨1, 0, 0, 0⟩ : Rg) k).d)]) hf rfl tN_187 (hB4.at 0) rfl) ?_; intro a hf
 refine l_e hf rfl (ev_build (ps := [(0, .agg #[.int .i64 ((mulOm1 (⟨1, 0, 0, 0⟩ : Rg) k).a), .int .i64 ((mulOm1 (⟨1, 0, 0, 0⟩ : Rg) k).b), .int .i64 ((mulOm1 (⟨1, 0, 0, 0⟩ : Rg) k).c), .int .i64 ((mulOm1 (⟨1, 0, 0, 0⟩ : Rg) k).d)])]) (cs := [.int .i64 ((mulOm1 (⟨1, 0, 0, 0⟩ : Rg) k).a), .int .i64 ((mulOm1 (⟨1, 0, 0, 0⟩ : Rg) k).b), .int .i64 ((mulOm1 (⟨1, 0, 0, 0⟩ : Rg) k).c), .int .i64 ((mulOm1 (⟨1, 0, 0, 0⟩ : Rg) k).d), .int .i64 0]) hf rfl (fun _ => by first | rfl | kernel_rfl)) ?_; intro a hf
 refine l_f0 hf (ef_store (vs := [.int .i64 ((mulOm1 (⟨1, 0, 0, 0⟩ : Rg) k).a), .int .i64 ((mulOm1 (⟨1, 0, 0, 0⟩ : Rg) k).b), .int .i64 ((mulOm1 (⟨1, 0, 0, 0⟩ : Rg) k).c), .int .i64 ((mulOm1 (⟨1, 0, 0, 0⟩ : Rg) k).d), .int .i64 0]) (l' := [.int .i64 ((mulOm1 (⟨1, 0, 0, 0⟩ : Rg) k).a), .int .i64 ((mulOm1 (⟨1, 0, 0, 0⟩ : Rg) k).b), .int .i64 ((mulOm1 (⟨1, 0, 0, 0⟩ : Rg) k).c), .int .i64 ((mulOm1 (⟨1, 0, 0, 0⟩ : Rg) k).d), .int .i64 0]) hf rfl rfl sz_189 hB2 rfl rfl rfl rfl rfl) ?_; rintro a _ w5 ⟨ho, hb⟩ hf
 have hold := hB2
 replace hB4 := hB4.only ho (Blk.ne hB4 hold rfl)
 replace hW := Below.only hW ho hlo2
 clear hold
 have hB2 := hb
 clear hb ho
 refine wpList_nil ?_
 refine hK5 _ _ ?_; try clear hK5 K5
 refine wp_ret ?_
 refine c_ret hf (res1 hf rfl (ResV.cellN (l := [.int .i64 ((mulOm1 (⟨1, 0, 0, 0⟩ : Rg) k).a), .int .i64 ((mulOm1 (⟨1, 0, 0, 0⟩ : Rg) k).b), .int .i64 ((mulOm1 (⟨1, 0, 0, 0⟩ : Rg) k).c), .int .i64 ((mulOm1 (⟨1, 0, 0, 0⟩ : Rg) k).d), .int .i64 0]) rfl tN_189 (hB2.at 0) rfl)) ?_
 refine ⟨?_, hW⟩
 have h2 : mulOm2 ⟨1, 0, 0, 0⟩ k = true := by simp only [mulOm2, hk, Bool.true_and]; rfl
 rw [mulOm1, h2]; rfl
theorem F193 (w0 : World) (x : Dy) : Ret Tryz.prog 193 [.agg #[.int .i64 x.num.a, .int .i64 x.num.b, .int .i64 x.num.c, .int .i64 x.num.d, .int .i64 x.exp]] w0 (fun v w => v = .bool (dOk x) ∧ Below w0.heap.size w0 w) := by
 refine enter Tryz.func193 rfl 22 rfl rfl ?_
 intro a hf
 have hW : Below w0.heap.size w0 w0 := Below.refl _ _
 refine wp_seq_k ?_; intro K1 hK1
 refine wp_region_lit ?_
 refine l_f hf rfl (ef_box (zs := [.int .i64 x.num.a, .int .i64 x.num.b, .int .i64 x.num.c, .int .i64 x.num.d, .int .i64 x.exp]) hf rfl rfl) ?_; rintro a _ w1 ⟨b2, rfl, hl2, hE, hB2⟩ hf
 have hlo2 := Nat.le_trans hW.size hl2
 replace hW := btr hW hE
 clear hE
 refine l_as hf rfl rfl ?_; intro a hf
 refine wpList_nil ?_
 refine hK1 _ _ ?_; try clear hK1 K1
 refine wp_seq_k ?_; intro K3 hK3
 refine c_cut (fun a w => Fr a 22 [(2, .bool (((rOk x.num) && (inR x.exp 0 60)) && ((x.exp == 0) || (!(rEven x.num)))))] ∧ Below w1.heap.size w1 w) ?_ ?_
 ·have hEc : Below w1.heap.size w1 w1 := Below.refl _ _
  refine wp_region_lit ?_
  refine l_e hf rfl (ev_fieldB hf rfl fd_189_0 (m := 0) rfl) ?_; intro a hf
  refine l_e hf rfl (ev_loadN (l := [.int .i64 x.num.a, .int .i64 x.num.b, .int .i64 x.num.c, .int .i64 x.num.d]) hf rfl tN_187 ((hB2.at 0).take 4) rfl) ?_; intro a hf
  refine l_f hf rfl (ef_call (vs := [.agg #[.int .i64 x.num.a, .int .i64 x.num.b, .int .i64 x.num.c, .int .i64 x.num.d]]) hf rfl ff_225 (F225 _ x.num)) ?_; rintro a _ w2 ⟨rfl, hE⟩ hf
  replace hB2 := hB2.below hE
  replace hW := btr hW hE
  replace hEc := btr hEc hE
  clear hE
  refine l_mv hf rfl rfl ?_; intro a hf
  refine g_split hf (t := 6) rfl (fun hg4 => ?_) (fun hg4 => ?_)
  ·refine l_ev hf ⟨_, _, rfl, rfl, hg4⟩ rfl rfl (ev_fieldB hf rfl fd_189_1 (m := 4) rfl) ?_; intro a hf
   refine l_ev hf ⟨_, _, rfl, rfl, hg4⟩ rfl rfl (ev_load1 hf rfl t1_3 (hB2.at 4)) ?_; intro a hf
   refine l_eff hf ⟨_, _, rfl, rfl, hg4⟩ rfl rfl (ef_call (vs := [.int .i64 x.exp, .int .i64 0, .int .i64 60]) hf rfl ff_91 (F91 _ x.exp 0 60)) ?_; rintro a _ _ ⟨rfl, rfl⟩ hf
   refine l_e hf rfl (ev_pickT hf rfl hg4 rfl) ?_; intro a hf
   refine l_mv hf rfl rfl ?_; intro a hf
   refine g_split hf (t := 11) rfl (fun hg5 => ?_) (fun hg5 => ?_)
   ·refine l_ev hf ⟨_, _, rfl, rfl, hg5⟩ rfl rfl (ev_fieldB hf rfl fd_189_1 (m := 4) rfl) ?_; intro a hf
    refine l_ev hf ⟨_, _, rfl, rfl, hg5⟩ rfl rfl (ev_load1 hf rfl t1_3 (hB2.at 4)) ?_; intro a hf
    refine l_ev hf ⟨_, _, rfl, rfl, hg5⟩ rfl rfl (ev_eql hf rfl rfl) ?_; intro a hf
    refine l_ev hf ⟨_, _, rfl, rfl, hg5⟩ rfl rfl (ev_move hf rfl) ?_; intro a hf
    refine g_split hf (t := 15) rfl (fun hg6 => ?_) (fun hg6 => ?_)
    ·refine l_pass hf ⟨_, _, rfl, rfl, hg6⟩ rfl rfl ?_; intro a hf
     refine l_pass hf ⟨_, _, rfl, rfl, hg6⟩ rfl rfl ?_; intro a hf
     refine l_pass hf ⟨_, _, rfl, rfl, hg6⟩ rfl rfl ?_; intro a hf
     refine l_pass hf ⟨_, _, rfl, rfl, hg6⟩ rfl rfl ?_; intro a hf
     refine l_ev hf ⟨_, _, rfl, rfl, hg5⟩ rfl rfl (ev_pickT hf rfl hg6 rfl) ?_; intro a hf
     refine l_e hf rfl (ev_pickT hf rfl hg5 rfl) ?_; intro a hf
     refine l_as hf rfl rfl ?_; intro a hf
     refine wpList_nil ?_
     have hEE : Below w1.heap.size w1 w2 := hEc
     exact ⟨hf.sub ⟨look_bool rfl (by first | rfl | (simp only [hg4, hg5, hg6, Bool.true_and, Bool.false_and, Bool.true_or, Bool.false_or]; done) | simp [hg4, hg5, hg6]), trivial⟩, hEE⟩
    refine l_ev hf ⟨_, _, rfl, rfl, hg6⟩ rfl rfl (ev_fieldB hf rfl fd_189_0 (m := 0) rfl) ?_; intro a hf
    refine l_ev hf ⟨_, _, rfl, rfl, hg6⟩ rfl rfl (ev_loadN (l := [.int .i64 x.num.a, .int .i64 x.num.b, .int .i64 x.num.c, .int .i64 x.num.d]) hf rfl tN_187 ((hB2.at 0).take 4) rfl) ?_; intro a hf
    refine l_eff hf ⟨_, _, rfl, rfl, hg6⟩ rfl rfl (ef_call (vs := [.agg #[.int .i64 x.num.a, .int .i64 x.num.b, .int .i64 x.num.c, .int .i64 x.num.d]]) hf rfl ff_226 (F226 _ x.num)) ?_; rintro a _ w3 ⟨rfl, hE⟩ hf
    replace hB2 := hB2.below hE
    replace hW := btr hW hE
    replace hEc := btr hEc hE
    clear hE
    refine l_ev hf ⟨_, _, rfl, rfl, hg6⟩ rfl rfl (ev_not hf rfl) ?_; intro a hf
    refine l_ev hf ⟨_, _, rfl, rfl, hg5⟩ rfl rfl (ev_pickF hf rfl hg6 rfl) ?_; intro a hf
    refine l_e hf rfl (ev_pickT hf rfl hg5 rfl) ?_; intro a hf
    refine l_as hf rfl rfl ?_; intro a hf
    refine wpList_nil ?_
    have hEE : Below w1.heap.size w1 w3 := hEc
    exact ⟨hf.sub ⟨look_bool rfl (by first | rfl | (simp only [hg4, hg5, hg6, Bool.true_and, Bool.false_and, Bool.true_or, Bool.false_or]; done) | simp [hg4, hg5, hg6]), trivial⟩, hEE⟩
   refine l_pass hf ⟨_, _, rfl, rfl, hg5⟩ rfl rfl ?_; intro a hf
   refine l_pass hf ⟨_, _, rfl, rfl, hg5⟩ rfl rfl ?_; intro a hf
   refine l_pass hf ⟨_, _, rfl, rfl, hg5⟩ rfl rfl ?_; intro a hf
   refine l_pass hf ⟨_, _, rfl, rfl, hg5⟩ rfl rfl ?_; intro a hf
   refine l_pass hf ⟨_, _, rfl, rfl, trivial⟩ rfl rfl ?_; intro a hf
   refine l_pass hf ⟨_, _, rfl, rfl, trivial⟩ rfl rfl ?_; intro a hf
   refine l_pass hf ⟨_, _, rfl, rfl, trivial⟩ rfl rfl ?_; intro a hf
   refine l_pass hf ⟨_, _, rfl, rfl, trivial⟩ rfl rfl ?_; intro a hf
   refine l_pass hf ⟨_, _, rfl, rfl, hg5⟩ rfl rfl ?_; intro a hf
   refine l_e hf rfl (ev_pickF hf rfl hg5 rfl) ?_; intro a hf
   refine l_as hf rfl rfl ?_; intro a hf
   refine wpList_nil ?_
   have hEE : Below w1.heap.size w1 w2 := hEc
   exact ⟨hf.sub ⟨look_bool rfl (by first | rfl | (simp only [hg4, hg5, Bool.true_and, Bool.false_and, Bool.true_or, Bool.false_or]; done) | simp [hg4, hg5]), trivial⟩, hEE⟩
  refine l_pass hf ⟨_, _, rfl, rfl, hg4⟩ rfl rfl ?_; intro a hf
  refine l_pass hf ⟨_, _, rfl, rfl, hg4⟩ rfl rfl ?_; intro a hf
  refine l_pass hf ⟨_, _, rfl, rfl, hg4⟩ rfl rfl ?_; intro a hf
  refine l_e hf rfl (ev_pickF hf rfl hg4 rfl) ?_; intro a hf
  refine l_mv hf rfl rfl ?_; intro a hf
  refine l_pass hf ⟨_, _, rfl, rfl, rfl⟩ rfl rfl ?_; intro a hf
  refine l_pass hf ⟨_, _, rfl, rfl, rfl⟩ rfl rfl ?_; intro a hf
  refine l_pass hf ⟨_, _, rfl, rfl, rfl⟩ rfl rfl ?_; intro a hf
  refine l_pass hf ⟨_, _, rfl, rfl, rfl⟩ rfl rfl ?_; intro a hf
  refine l_pass hf ⟨_, _, rfl, rfl, trivial⟩ rfl rfl ?_; intro a hf
  refine l_pass hf ⟨_, _, rfl, rfl, trivial⟩ rfl rfl ?_; intro a hf
  refine l_pass hf ⟨_, _, rfl, rfl, trivial⟩ rfl rfl ?_; intro a hf
  refine l_pass hf ⟨_, _, rfl, rfl, trivial⟩ rfl rfl ?_; intro a hf
  refine l_pass hf ⟨_, _, rfl, rfl, rfl⟩ rfl rfl ?_; intro a hf
  refine l_e hf rfl (ev_pickF hf rfl rfl rfl) ?_; intro a hf
  refine l_as hf rfl rfl ?_; intro a hf
  refine wpList_nil ?_
  have hEE : Below w1.heap.size w1 w2 := hEc
  exact ⟨hf.sub ⟨look_bool rfl (by first | rfl | (simp only [hg4, Bool.true_and, Bool.false_and, Bool.true_or, Bool.false_or]; done) | simp [hg4]), trivial⟩, hEE⟩
 rintro a w4 ⟨hf, hE⟩
 replace hB2 := hB2.below hE
 replace hW := btr hW hE
 clear hE
 refine hK3 _ _ ?_; try clear hK3 K3
 refine wp_ret ?_
 refine c_ret hf (res1 hf rfl rfl) ?_
 exact ⟨by simp [dOk, *], hW⟩
theorem F228 (w0 : World) (x : Rg) (m : Int) : Ret Tryz.prog 228 [.agg #[.int .i64 x.a, .int .i64 x.b, .int .i64 x.c, .int .i64 x.d], .int .i64 m] w0 (fun v w => v = .tuple #[dV ((dOf x m).getD dZ), .bool ((dOf x m).isSome)] ∧ Below w0.heap.size w0 w) := by
 refine enter Tryz.func228 rfl 31 rfl rfl ?_
 intro a hf
 have hW : Below w0.heap.size w0 w0 := Below.refl _ _
 refine wp_seq_k ?_; intro K1 hK1
 refine wp_region_lit ?_
 refine l_f hf rfl (ef_box (zs := [.int .i64 x.a, .int .i64 x.b, .int .i64 x.c, .int .i64 x.d]) hf rfl rfl) ?_; rintro a _ w1 ⟨b2, rfl, hl2, hE, hB2⟩ hf
 have hlo2 := Nat.le_trans hW.size hl2
 replace hW := btr hW hE
 clear hE
 refine l_f hf rfl (ef_alloc (zs := [.int .i64 0, .int .i64 0, .int .i64 0, .int .i64 0, .int .i64 0]) z_189 rfl) ?_; rintro a _ w2 ⟨b3, rfl, hl3, hE, hB3⟩ hf
 have hlo3 := Nat.le_trans hW.size hl3
 replace hB2 := hB2.below hE
 replace hW := btr hW hE
 clear hE
 refine l_as hf rfl rfl ?_; intro a hf
 refine wpList_nil ?_
 refine hK1 _ _ ?_; try clear hK1 K1
 refine wp_seq_k ?_; intro K4 hK4
 refine wp_seq_k ?_; intro K5 hK5
 refine c_cut (fun a w => Fr a 31 [(1, .int .i64 m), (2, .pointer (some ⟨b2, 0, none⟩)), (4, .pointer (some ⟨b3, 0, none⟩)), (13, .bool ((!(rOk x)) || (!(inR m 0 60))))] ∧ Below w2.heap.size w2 w) ?_ ?_
 ·have hEc : Below w2.heap.size w2 w2 := Below.refl _ _
  refine wp_region_lit ?_
  refine l_e hf rfl (ev_loadN (l := [.int .i64 x.a, .int .i64 x.b, .int .i64 x.c, .int .i64 x.d]) hf rfl tN_187 (hB2.at 0) rfl) ?_; intro a hf
  refine l_f hf rfl (ef_call (vs := [.agg #[.int .i64 x.a, .int .i64 x.b, .int .i64 x.c, .int .i64 x.d]]) hf rfl ff_225 (F225 _ x)) ?_; rintro a _ w3 ⟨rfl, hE⟩ hf
  replace hB2 := hB2.below hE
  replace hB3 := hB3.below hE
  replace hW := btr hW hE
  replace hEc := btr hEc hE
  clear hE
  refine l_e hf rfl (ev_not hf rfl) ?_; intro a hf
  refine l_mv hf rfl rfl ?_; intro a hf
  refine g_split hf (t := 9) rfl (fun hg6 => ?_) (fun hg6 => ?_)
  ·refine l_pass hf ⟨_, _, rfl, rfl, hg6⟩ rfl rfl ?_; intro a hf
   refine l_pass hf ⟨_, _, rfl, rfl, hg6⟩ rfl rfl ?_; intro a hf
   refine l_pass hf ⟨_, _, rfl, rfl, hg6⟩ rfl rfl ?_; intro a hf
   refine l_e hf rfl (ev_pickT hf rfl hg6 rfl) ?_; intro a hf
   refine wpList_nil ?_
   have hEE : Below w2.heap.size w2 w3 := hEc
   exact ⟨hf.sub ⟨rfl, rfl, rfl, look_bool rfl (by first | rfl | (simp only [hg6, Bool.true_and, Bool.false_and, Bool.true_or, Bool.false_or]; done) | simp [hg6]), trivial⟩, hEE⟩
  refine l_ev hf ⟨_, _, rfl, rfl, hg6⟩ rfl rfl (ev_move hf rfl) ?_; intro a hf
  refine l_eff hf ⟨_, _, rfl, rfl, hg6⟩ rfl rfl (ef_call (vs := [.int .i64 m, .int .i64 0, .int .i64 60]) hf rfl ff_91 (F91 _ m 0 60)) ?_; rintro a _ _ ⟨rfl, rfl⟩ hf
  refine l_ev hf ⟨_, _, rfl, rfl, hg6⟩ rfl rfl (ev_not hf rfl) ?_; intro a hf
  refine l_e hf rfl (ev_pickF hf rfl hg6 rfl) ?_; intro a hf
  refine wpList_nil ?_
  have hEE : Below w2.heap.size w2 w3 := hEc
  exact ⟨hf.sub ⟨rfl, rfl, rfl, look_bool rfl (by first | rfl | (simp only [hg6, Bool.true_and, Bool.false_and, Bool.true_or, Bool.false_or]; done) | simp [hg6]), trivial⟩, hEE⟩
 rintro a w4 ⟨hf, hE⟩
 replace hB2 := hB2.below hE
 replace hB3 := hB3.below hE
 replace hW := btr hW hE
 clear hE
 refine hK5 _ _ ?_; try clear hK5 K5
 refine c_if hf rfl (fun hc7 => ?_) (fun hc7 => ?_)
 ·have hc7b := hc7
  have hn : (rOk x && inR m 0 60) = false := by revert hc7; cases rOk x <;> cases inR m 0 60 <;> simp
  refine wp_seq_k ?_; intro K8 hK8
  refine wp_region_lit ?_
  refine l_e hf rfl (ev_build (ps := []) (cs := [.int .i64 0, .int .i64 0, .int .i64 0, .int .i64 0, .int .i64 0]) hf rfl (fun _ => by first | rfl | kernel_rfl)) ?_; intro a hf
  refine l_f0 hf (ef_store (vs := [.int .i64 0, .int .i64 0, .int .i64 0, .int .i64 0, .int .i64 0]) (l' := [.int .i64 0, .int .i64 0, .int .i64 0, .int .i64 0, .int .i64 0]) hf rfl rfl sz_189 hB3 rfl rfl rfl rfl rfl) ?_; rintro a _ w5 ⟨ho, hb⟩ hf
  have hold := hB3
  replace hB2 := hB2.only ho (Blk.ne hB2 hold rfl)
  replace hW := Below.only hW ho hlo3
  clear hold
  have hB3 := hb
  clear hb ho
  refine l_as hf rfl rfl ?_; intro a hf
  refine wpList_nil ?_
  refine hK8 _ _ ?_; try clear hK8 K8
  refine wp_ret ?_
  refine x_retS ?_
  refine c_ret hf (res2 hf rfl (ResV.cellN (l := [.int .i64 0, .int .i64 0, .int .i64 0, .int .i64 0, .int .i64 0]) rfl tN_189 (hB3.at 0) rfl) rfl) ?_
  exact ⟨by simp [dOf, hn, dZ], hW⟩
 have hc7b := hc7
 have hy : (rOk x && inR m 0 60) = true := by revert hc7; cases rOk x <;> cases inR m 0 60 <;> simp
 have hy2 := (Bool.and_eq_true _ _ ▸ hy : rOk x = true ∧ inR m 0 60 = true)
 have hm := inR_iff.1 hy2.2
 refine wp_skip ?_
 refine hK4 _ _ ?_; try clear hK4 K4
 refine wp_seq_k ?_; intro K9 hK9
 refine wp_block ?_
 refine c_loop (σ := Rg × Int) (fun (s : Rg × Int) (a : Act) (w : World) => match s with | (y, j) => Fr a 31 [(1, .int .i64 j), (2, .pointer (some ⟨b2, 0, none⟩)), (4, .pointer (some ⟨b3, 0, none⟩))] ∧ (dLow y j = dLow x m) ∧ (rOk y = true) ∧ (j ≤ 60) ∧ Blk w b2 187 [.int .i64 y.a, .int .i64 y.b, .int .i64 y.c, .int .i64 y.d] ∧ Blk w b3 189 [.int .i64 0, .int .i64 0, .int .i64 0, .int .i64 0, .int .i64 0] ∧ Below w0.heap.size w0 w) (fun (s : Rg × Int) => match s with | (y, j) => j.toNat) (x, m) ?_ ?_
 · exact ⟨hf.sub ⟨rfl, rfl, rfl, trivial⟩, rfl, hy2.1, hm.2, hB2, hB3, hW⟩
 rintro ⟨y, j⟩ a w6 ⟨hf, hinv, hok, hjm, hB2, hB3, hW⟩
 refine wp_seq_k ?_; intro K10 hK10
 refine wp_seq_k ?_; intro K11 hK11
 refine c_cut (fun a w => Fr a 31 [(1, .int .i64 j), (2, .pointer (some ⟨b2, 0, none⟩)), (4, .pointer (some ⟨b3, 0, none⟩)), (20, .bool ((decide (0 < j)) && (rEven y)))] ∧ Below w6.heap.size w6 w) ?_ ?_
 ·have hEc : Below w6.heap.size w6 w6 := Below.refl _ _
  refine wp_region_lit ?_
  refine l_mv hf rfl rfl ?_; intro a hf
  refine l_e hf rfl (ev_gtr hf rfl rfl) ?_; intro a hf
  refine l_mv hf rfl rfl ?_; intro a hf
  refine g_split hf (t := 17) rfl (fun hg12 => ?_) (fun hg12 => ?_)
  ·refine l_ev hf ⟨_, _, rfl, rfl, hg12⟩ rfl rfl (ev_loadN (l := [.int .i64 y.a, .int .i64 y.b, .int .i64 y.c, .int .i64 y.d]) hf rfl tN_187 (hB2.at 0) rfl) ?_; intro a hf
   refine l_eff hf ⟨_, _, rfl, rfl, hg12⟩ rfl rfl (ef_call (vs := [.agg #[.int .i64 y.a, .int .i64 y.b, .int .i64 y.c, .int .i64 y.d]]) hf rfl ff_226 (F226 _ y)) ?_; rintro a _ w7 ⟨rfl, hE⟩ hf
   replace hB2 := hB2.below hE
   replace hB3 := hB3.below hE
   replace hW := btr hW hE
   replace hEc := btr hEc hE
   clear hE
   refine l_e hf rfl (ev_pickT hf rfl hg12 rfl) ?_; intro a hf
   refine wpList_nil ?_
   have hEE : Below w6.heap.size w6 w7 := hEc
   exact ⟨hf.sub ⟨rfl, rfl, rfl, look_bool rfl (by first | rfl | (simp only [hc7b, hg12, Bool.true_and, Bool.false_and, Bool.true_or, Bool.false_or]; done) | simp [hc7b, hg12]), trivial⟩, hEE⟩
  refine l_pass hf ⟨_, _, rfl, rfl, hg12⟩ rfl rfl ?_; intro a hf
  refine l_pass hf ⟨_, _, rfl, rfl, hg12⟩ rfl rfl ?_; intro a hf
  refine l_e hf rfl (ev_pickF hf rfl hg12 rfl) ?_; intro a hf
  refine wpList_nil ?_
  have hEE : Below w6.heap.size w6 w6 := hEc
  exact ⟨hf.sub ⟨rfl, rfl, rfl, look_bool rfl (by first | rfl | (simp only [hc7b, hg12, Bool.true_and, Bool.false_and, Bool.true_or, Bool.false_or]; done) | simp [hc7b, hg12]), trivial⟩, hEE⟩
 rintro a w8 ⟨hf, hE⟩
 replace hB2 := hB2.below hE
 replace hB3 := hB3.below hE
 replace hW := btr hW hE
 clear hE
 refine hK11 _ _ ?_; try clear hK11 K11
 refine c_if hf rfl (fun hc13 => ?_) (fun hc13 => ?_)
 ·have hc13b := hc13
  have hj0 : 0 < j := by revert hc13; simp; omega
  have hev : rEven y = true := by revert hc13; cases rEven y <;> simp
  refine wp_skip ?_
  refine hK10 _ _ ?_; try clear hK10 K10
  refine wp_block ?_
  refine wp_seq_k ?_; intro K14 hK14
  refine wp_region_lit ?_
  refine l_e hf rfl (ev_loadN (l := [.int .i64 y.a, .int .i64 y.b, .int .i64 y.c, .int .i64 y.d]) hf rfl tN_187 (hB2.at 0) rfl) ?_; intro a hf
  refine l_f hf rfl (ef_call (vs := [.agg #[.int .i64 y.a, .int .i64 y.b, .int .i64 y.c, .int .i64 y.d]]) hf rfl ff_243 (F243 _ y)) ?_; rintro a _ w9 ⟨rfl, hE⟩ hf
  replace hB2 := hB2.below hE
  replace hB3 := hB3.below hE
  replace hW := btr hW hE
  clear hE
  refine l_mv hf rfl rfl ?_; intro a hf
  refine l_e hf rfl (ev_extract (vs := [.agg #[.int .i64 ((rDiv1 y).a), .int .i64 ((rDiv1 y).b), .int .i64 ((rDiv1 y).c), .int .i64 ((rDiv1 y).d)], .bool (rDiv2 y)]) hf rfl rfl) ?_; intro a hf
  refine l_e hf rfl (ev_extract (vs := [.agg #[.int .i64 ((rDiv1 y).a), .int .i64 ((rDiv1 y).b), .int .i64 ((rDiv1 y).c), .int .i64 ((rDiv1 y).d)], .bool (rDiv2 y)]) hf rfl rfl) ?_; intro a hf
  refine l_f0 hf (ef_store (vs := [.int .i64 ((rDiv1 y).a), .int .i64 ((rDiv1 y).b), .int .i64 ((rDiv1 y).c), .int .i64 ((rDiv1 y).d)]) (l' := [.int .i64 ((rDiv1 y).a), .int .i64 ((rDiv1 y).b), .int .i64 ((rDiv1 y).c), .int .i64 ((rDiv1 y).d)]) hf rfl rfl sz_187 hB2 rfl rfl rfl rfl rfl) ?_; rintro a _ w10 ⟨ho, hb⟩ hf
  have hold := hB2
  replace hB3 := hB3.only ho (Blk.ne hB3 hold rfl)
  replace hW := Below.only hW ho hlo2
  clear hold
  have hB2 := hb
  clear hb ho
  refine wpList_nil ?_
  refine hK14 _ _ ?_; try clear hK14 K14
  refine wp_region_lit ?_
  refine l_mv hf rfl rfl ?_; intro a hf
  refine l_e hf rfl (ev_subx hf rfl rfl (by omega) (by omega)) ?_; intro a hf
  refine l_as hf rfl rfl ?_; intro a hf
  refine wpList_nil ?_
  refine x_norm ?_
  rw [rDiv1, rDiv2, hok, hev, Bool.and_self, if_pos rfl] at hB2
  refine x_thenN ?_
  exact ⟨(rHalf y, j - 1), ⟨hf.sub ⟨rfl, rfl, rfl, trivial⟩, (by rw [← hinv]; exact (dLow_step (by omega) hev).symm), (rHalf_ok hok), (by omega), hB2, hB3, hW⟩, (by first | omega | (dsimp only; omega))⟩
 have hc13b := hc13
 have hst : dLow y j = ⟨y, j⟩ := dLow_stop (by intro h0; revert hc13; simp [h0])
 refine wp_exit ?_
 refine x_exS ?_
 refine x_exS ?_
 refine x_exit ?_
 refine hK9 _ _ ?_; try clear hK9 K9
 refine wp_seq_k ?_; intro K15 hK15
 refine wp_region_lit ?_
 refine l_e hf rfl (ev_loadN (l := [.int .i64 y.a, .int .i64 y.b, .int .i64 y.c, .int .i64 y.d]) hf rfl tN_187 (hB2.at 0) rfl) ?_; intro a hf
 refine l_mv hf rfl rfl ?_; intro a hf
 refine l_e hf rfl (ev_build (ps := [(0, .agg #[.int .i64 y.a, .int .i64 y.b, .int .i64 y.c, .int .i64 y.d]), (1, .int .i64 j)]) (cs := [.int .i64 y.a, .int .i64 y.b, .int .i64 y.c, .int .i64 y.d, .int .i64 j]) hf rfl (fun _ => by first | rfl | kernel_rfl)) ?_; intro a hf
 refine l_f0 hf (ef_store (vs := [.int .i64 y.a, .int .i64 y.b, .int .i64 y.c, .int .i64 y.d, .int .i64 j]) (l' := [.int .i64 y.a, .int .i64 y.b, .int .i64 y.c, .int .i64 y.d, .int .i64 j]) hf rfl rfl sz_189 hB3 rfl rfl rfl rfl rfl) ?_; rintro a _ w11 ⟨ho, hb⟩ hf
 have hold := hB3
 replace hB2 := hB2.only ho (Blk.ne hB2 hold rfl)
 replace hW := Below.only hW ho hlo3
 clear hold
 have hB3 := hb
 clear hb ho
 refine l_as hf rfl rfl ?_; intro a hf
 refine wpList_nil ?_
 refine hK15 _ _ ?_; try clear hK15 K15
 refine wp_ret ?_
 refine c_ret hf (res2 hf rfl (ResV.cellN (l := [.int .i64 y.a, .int .i64 y.b, .int .i64 y.c, .int .i64 y.d, .int .i64 j]) rfl tN_189 (hB3.at 0) rfl) rfl) ?_
 refine ⟨?_, hW⟩
 have he : dOf x m = some ⟨y, j⟩ := by rw [dOf, if_pos hy, ← hinv, hst]
 rw [he]; rfl
theorem F249 (w0 : World) (x : Dy) (m : Int) (h0 : 0 ≤ x.exp) (hm : m ≤ 60) (hxm : x.exp ≤ m) : Ret Tryz.prog 249 [.agg #[.int .i64 x.num.a, .int .i64 x.num.b, .int .i64 x.num.c, .int .i64 x.num.d, .int .i64 x.exp], .int .i64 m] w0 (fun v w => v = .tuple #[rV ((dRaise x m).1), .bool ((dRaise x m).2)] ∧ Below w0.heap.size w0 w) := by
 refine enter Tryz.func249 rfl 28 rfl rfl ?_
 intro a hf
 have hW : Below w0.heap.size w0 w0 := Below.refl _ _
 refine wp_seq_k ?_; intro K1 hK1
 refine wp_region_lit ?_
 refine l_f hf rfl (ef_box (zs := [.int .i64 x.num.a, .int .i64 x.num.b, .int .i64 x.num.c, .int .i64 x.num.d, .int .i64 x.exp]) hf rfl rfl) ?_; rintro a _ w1 ⟨b2, rfl, hl2, hE, hB2⟩ hf
 have hlo2 := Nat.le_trans hW.size hl2
 replace hW := btr hW hE
 clear hE
 refine l_f hf rfl (ef_alloc (zs := [.int .i64 0, .int .i64 0, .int .i64 0, .int .i64 0]) z_187 rfl) ?_; rintro a _ w2 ⟨b3, rfl, hl3, hE, hB3⟩ hf
 have hlo3 := Nat.le_trans hW.size hl3
 replace hB2 := hB2.below hE
 replace hW := btr hW hE
 clear hE
 refine l_as hf rfl rfl ?_; intro a hf
 refine wpList_nil ?_
 refine hK1 _ _ ?_; try clear hK1 K1
 refine wp_seq_k ?_; intro K4 hK4
 refine wp_region_lit ?_
 refine l_e hf rfl (ev_fieldB hf rfl fd_189_0 (m := 0) rfl) ?_; intro a hf
 refine l_e hf rfl (ev_loadN (l := [.int .i64 x.num.a, .int .i64 x.num.b, .int .i64 x.num.c, .int .i64 x.num.d]) hf rfl tN_187 ((hB2.at 0).take 4) rfl) ?_; intro a hf
 refine l_f hf rfl (ef_alloc (zs := [.int .i64 0, .int .i64 0, .int .i64 0, .int .i64 0]) z_187 rfl) ?_; rintro a _ w3 ⟨b5, rfl, hl5, hE, hB5⟩ hf
 have hne3_5 : b3 ≠ b5 := by have := hB3.lt; omega
 have hlo5 := Nat.le_trans hW.size hl5
 replace hB2 := hB2.below hE
 replace hB3 := hB3.below hE
 replace hW := btr hW hE
 clear hE
 refine l_f0 hf (ef_store (vs := [.int .i64 x.num.a, .int .i64 x.num.b, .int .i64 x.num.c, .int .i64 x.num.d]) (l' := [.int .i64 x.num.a, .int .i64 x.num.b, .int .i64 x.num.c, .int .i64 x.num.d]) hf rfl rfl sz_187 hB5 rfl rfl rfl rfl rfl) ?_; rintro a _ w4 ⟨ho, hb⟩ hf
 have hold := hB5
 replace hB2 := hB2.only ho (Blk.ne hB2 hold rfl)
 replace hB3 := hB3.only ho (by omega)
 replace hW := Below.only hW ho hlo5
 clear hold
 have hB5 := hb
 clear hb ho
 refine l_as hf rfl rfl ?_; intro a hf
 refine wpList_nil ?_
 refine hK4 _ _ ?_; try clear hK4 K4
 refine wp_seq_k ?_; intro K6 hK6
 refine wp_seq_k ?_; intro K7 hK7
 refine wp_region_lit ?_
 refine l_e hf rfl (ev_fieldB hf rfl fd_189_1 (m := 4) rfl) ?_; intro a hf
 refine l_e hf rfl (ev_load1 hf rfl t1_3 (hB2.at 4)) ?_; intro a hf
 refine l_as hf rfl rfl ?_; intro a hf
 refine wpList_nil ?_
 refine hK7 _ _ ?_; try clear hK7 K7
 refine wp_block ?_
 refine c_loop (σ := Rg × Bool × Int) (fun (s : Rg × Bool × Int) (a : Act) (w : World) => match s with | (y, b, j) => Fr a 28 [(1, .int .i64 m), (4, .pointer (some ⟨b3, 0, none⟩)), (6, .pointer (some ⟨b5, 0, none⟩)), (7, .bool b), (8, .int .i64 j)] ∧ ((if b = true then raiseI (m - j).toNat y else (y, false)) = dRaise x m) ∧ (b = true → j ≤ m) ∧ (0 ≤ j ∧ j ≤ 61) ∧ Blk w b3 187 [.int .i64 0, .int .i64 0, .int .i64 0, .int .i64 0] ∧ Blk w b5 187 [.int .i64 y.a, .int .i64 y.b, .int .i64 y.c, .int .i64 y.d] ∧ Below w0.heap.size w0 w) (fun (s : Rg × Bool × Int) => match s with | (y, b, j) => (62 - j).toNat) (x.num, true, x.exp) ?_ ?_
 · exact ⟨hf.sub ⟨rfl, rfl, rfl, rfl, rfl, trivial⟩, rfl, (fun _ => hxm), (by omega), hB3, hB5, hW⟩
 rintro ⟨y, b, j⟩ a w5 ⟨hf, hinv, hjm, hj60, hB3, hB5, hW⟩
 refine wp_seq_k ?_; intro K8 hK8
 refine wp_seq_k ?_; intro K9 hK9
 refine c_cut (fun a w => Fr a 28 [(1, .int .i64 m), (4, .pointer (some ⟨b3, 0, none⟩)), (6, .pointer (some ⟨b5, 0, none⟩)), (7, .bool b), (8, .int .i64 j), (18, .bool ((decide (j < m)) && b))] ∧ w5 = w) ?_ ?_
 ·refine wp_region_lit ?_
  refine l_mv hf rfl rfl ?_; intro a hf
  refine l_mv hf rfl rfl ?_; intro a hf
  refine l_e hf rfl (ev_lss hf rfl rfl) ?_; intro a hf
  refine l_mv hf rfl rfl ?_; intro a hf
  refine g_split hf (t := 16) rfl (fun hg10 => ?_) (fun hg10 => ?_)
  ·refine l_ev hf ⟨_, _, rfl, rfl, hg10⟩ rfl rfl (ev_move hf rfl) ?_; intro a hf
   refine l_e hf rfl (ev_pickT hf rfl hg10 rfl) ?_; intro a hf
   refine wpList_nil ?_
   exact ⟨hf.sub ⟨rfl, rfl, rfl, rfl, rfl, look_bool rfl (by first | rfl | (simp only [hg10, Bool.true_and, Bool.false_and, Bool.true_or, Bool.false_or]; done) | simp [hg10]), trivial⟩, rfl⟩
  refine l_pass hf ⟨_, _, rfl, rfl, hg10⟩ rfl rfl ?_; intro a hf
  refine l_e hf rfl (ev_pickF hf rfl hg10 rfl) ?_; intro a hf
  refine wpList_nil ?_
  exact ⟨hf.sub ⟨rfl, rfl, rfl, rfl, rfl, look_bool rfl (by first | rfl | (simp only [hg10, Bool.true_and, Bool.false_and, Bool.true_or, Bool.false_or]; done) | simp [hg10]), trivial⟩, rfl⟩
 rintro a _ ⟨hf, rfl⟩
 refine hK9 _ _ ?_; try clear hK9 K9
 refine c_if hf rfl (fun hc11 => ?_) (fun hc11 => ?_)
 ·have hc11b := hc11
  have hj0 : j < m := by revert hc11; simp; omega
  have hb : b = true := by revert hc11; cases b <;> simp
  refine wp_skip ?_
  refine hK8 _ _ ?_; try clear hK8 K8
  refine wp_seq_k ?_; intro K12 hK12
  refine wp_block ?_
  refine wp_region_lit ?_
  refine l_e hf rfl (ev_loadN (l := [.int .i64 y.a, .int .i64 y.b, .int .i64 y.c, .int .i64 y.d]) hf rfl tN_187 (hB5.at 0) rfl) ?_; intro a hf
  refine l_f hf rfl (ef_call (vs := [.agg #[.int .i64 y.a, .int .i64 y.b, .int .i64 y.c, .int .i64 y.d]]) hf rfl ff_252 (F252 _ y)) ?_; rintro a _ w6 ⟨rfl, hE⟩ hf
  replace hB3 := hB3.below hE
  replace hB5 := hB5.below hE
  replace hW := btr hW hE
  clear hE
  refine l_mv hf rfl rfl ?_; intro a hf
  refine l_e hf rfl (ev_extract (vs := [.agg #[.int .i64 ((rIf1 (rRoot y) [y]).a), .int .i64 ((rIf1 (rRoot y) [y]).b), .int .i64 ((rIf1 (rRoot y) [y]).c), .int .i64 ((rIf1 (rRoot y) [y]).d)], .bool (rIf2 (rRoot y) [y])]) hf rfl rfl) ?_; intro a hf
  refine l_e hf rfl (ev_extract (vs := [.agg #[.int .i64 ((rIf1 (rRoot y) [y]).a), .int .i64 ((rIf1 (rRoot y) [y]).b), .int .i64 ((rIf1 (rRoot y) [y]).c), .int .i64 ((rIf1 (rRoot y) [y]).d)], .bool (rIf2 (rRoot y) [y])]) hf rfl rfl) ?_; intro a hf
  refine l_f0 hf (ef_store (vs := [.int .i64 ((rIf1 (rRoot y) [y]).a), .int .i64 ((rIf1 (rRoot y) [y]).b), .int .i64 ((rIf1 (rRoot y) [y]).c), .int .i64 ((rIf1 (rRoot y) [y]).d)]) (l' := [.int .i64 ((rIf1 (rRoot y) [y]).a), .int .i64 ((rIf1 (rRoot y) [y]).b), .int .i64 ((rIf1 (rRoot y) [y]).c), .int .i64 ((rIf1 (rRoot y) [y]).d)]) hf rfl rfl sz_187 hB5 rfl rfl rfl rfl rfl) ?_; rintro a _ w7 ⟨ho, hb⟩ hf
  have hold := hB5
  replace hB3 := hB3.only ho (by omega)
  replace hW := Below.only hW ho hlo5
  clear hold
  have hB5 := hb
  clear hb ho
  refine l_as hf rfl rfl ?_; intro a hf
  refine wpList_nil ?_
  refine x_norm ?_
  refine hK12 _ _ ?_; try clear hK12 K12
  refine wp_region_lit ?_
  refine l_mv hf rfl rfl ?_; intro a hf
  refine l_e hf rfl (ev_addx hf rfl rfl (by omega) (by omega)) ?_; intro a hf
  refine l_as hf rfl rfl ?_; intro a hf
  refine wpList_nil ?_
  refine x_thenN ?_
  exact ⟨(rIf1 (rRoot y) [y], rIf2 (rRoot y) [y], j + 1), ⟨hf.sub ⟨rfl, rfl, rfl, rfl, rfl, trivial⟩, (raise_step hinv hb hj0), (by intro _; omega), (by omega), hB3, hB5, hW⟩, (by first | omega | (dsimp only; omega))⟩
 have hc11b := hc11
 have hst : b = true → m ≤ j := by intro h0; subst h0; revert hc11; simp
 refine wp_exit ?_
 refine x_exS ?_
 refine x_exS ?_
 refine x_exit ?_
 refine hK6 _ _ ?_; try clear hK6 K6
 refine wp_seq_k ?_; intro K13 hK13
 refine wp_region_lit ?_
 refine l_e hf rfl (ev_loadN (l := [.int .i64 y.a, .int .i64 y.b, .int .i64 y.c, .int .i64 y.d]) hf rfl tN_187 (hB5.at 0) rfl) ?_; intro a hf
 refine l_mv hf rfl rfl ?_; intro a hf
 refine l_f0 hf (ef_store (vs := [.int .i64 y.a, .int .i64 y.b, .int .i64 y.c, .int .i64 y.d]) (l' := [.int .i64 y.a, .int .i64 y.b, .int .i64 y.c, .int .i64 y.d]) hf rfl rfl sz_187 hB3 rfl rfl rfl rfl rfl) ?_; rintro a _ w8 ⟨ho, hb⟩ hf
 have hold := hB3
 replace hB5 := hB5.only ho (by omega)
 replace hW := Below.only hW ho hlo3
 clear hold
 have hB3 := hb
 clear hb ho
 refine l_as hf rfl rfl ?_; intro a hf
 refine wpList_nil ?_
 refine hK13 _ _ ?_; try clear hK13 K13
 refine wp_ret ?_
 refine c_ret hf (res2 hf rfl (ResV.cellN (l := [.int .i64 y.a, .int .i64 y.b, .int .i64 y.c, .int .i64 y.d]) rfl tN_187 (hB3.at 0) rfl) rfl) ?_
 refine ⟨?_, hW⟩
 have he : dRaise x m = (y, b) := by rw [← hinv]; cases b with
  | false => rfl
  | true => rw [if_pos rfl, show (m - j).toNat = 0 from by have := hst rfl; omega]; rfl
 rw [he]
end Go.Proofs.YtfgnmflfiobkmaaGreat
set_option maxRecDepth 4000
namespace Go.Proofs.YtfgnmflfiobkmaaGreat
open Go.RowKit
theorem F239 (w0 : World) (x : Dy) (y : Dy) : Ret Tryz.prog 239 [.agg #[.int .i64 x.num.a, .int .i64 x.num.b, .int .i64 x.num.c, .int .i64 x.num.d, .int .i64 x.exp], .agg #[.int .i64 y.num.a, .int .i64 y.num.b, .int .i64 y.num.c, .int .i64 y.num.d, .int .i64 y.exp], .func (.func 240) #[] #[]] w0 (fun v w => v = .tuple #[dV ((dAddI x y).getD dZ), .bool ((dAddI x y).isSome)] ∧ Below w0.heap.size w0 w) := by
 refine enter Tryz.func239 rfl 64 rfl rfl ?_
 intro a hf
 have hW : Below w0.heap.size w0 w0 := Below.refl _ _
 refine wp_seq_k ?_; intro K1 hK1
 refine wp_region_lit ?_
 refine l_f hf rfl (ef_box (zs := [.int .i64 x.num.a, .int .i64 x.num.b, .int .i64 x.num.c, .int .i64 x.num.d, .int .i64 x.exp]) hf rfl rfl) ?_; rintro a _ w1 ⟨b2, rfl, hl2, hE, hB2⟩ hf
 have hlo2 := Nat.le_trans hW.size hl2
 replace hW := btr hW hE
 clear hE
 refine l_f hf rfl (ef_box (zs := [.int .i64 y.num.a, .int .i64 y.num.b, .int .i64 y.num.c, .int .i64 y.num.d, .int .i64 y.exp]) hf rfl rfl) ?_; rintro a _ w2 ⟨b3, rfl, hl3, hE, hB3⟩ hf
 have hne2_3 : b2 ≠ b3 := by have := hB2.lt; omega
 have hlo3 := Nat.le_trans hW.size hl3
 replace hB2 := hB2.below hE
 replace hW := btr hW hE
 clear hE
 refine l_f hf rfl (ef_alloc (zs := [.int .i64 0, .int .i64 0, .int .i64 0, .int .i64 0, .int .i64 0]) z_189 rfl) ?_; rintro a _ w3 ⟨b4, rfl, hl4, hE, hB4⟩ hf
 have hne2_4 : b2 ≠ b4 := by have := hB2.lt; omega
 have hne3_4 : b3 ≠ b4 := by have := hB3.lt; omega
 have hlo4 := Nat.le_trans hW.size hl4
 replace hB2 := hB2.below hE
 replace hB3 := hB3.below hE
 replace hW := btr hW hE
 clear hE
 refine l_as hf rfl rfl ?_; intro a hf
 refine wpList_nil ?_
 refine hK1 _ _ ?_; try clear hK1 K1
 refine wp_seq_k ?_; intro K5 hK5
 refine wp_seq_k ?_; intro K6 hK6
 refine c_cut (fun a w => Fr a 64 [(2, .func (.func 240) #[] #[]), (3, .pointer (some ⟨b2, 0, none⟩)), (4, .pointer (some ⟨b3, 0, none⟩)), (6, .pointer (some ⟨b4, 0, none⟩)), (22, .bool ((!(dOk x)) || (!(dOk y))))] ∧ Below w3.heap.size w3 w) ?_ ?_
 ·have hEc : Below w3.heap.size w3 w3 := Below.refl _ _
  refine wp_region_lit ?_
  refine l_e hf rfl (ev_loadN (l := [.int .i64 x.num.a, .int .i64 x.num.b, .int .i64 x.num.c, .int .i64 x.num.d, .int .i64 x.exp]) hf rfl tN_189 (hB2.at 0) rfl) ?_; intro a hf
  refine l_f hf rfl (ef_call (vs := [.agg #[.int .i64 x.num.a, .int .i64 x.num.b, .int .i64 x.num.c, .int .i64 x.num.d, .int .i64 x.exp]]) hf rfl ff_193 (F193 _ x)) ?_; rintro a _ w4 ⟨rfl, hE⟩ hf
  replace hB2 := hB2.below hE
  replace hB3 := hB3.below hE
  replace hB4 := hB4.below hE
  replace hW := btr hW hE
  replace hEc := btr hEc hE
  clear hE
  refine l_e hf rfl (ev_not hf rfl) ?_; intro a hf
  refine l_mv hf rfl rfl ?_; intro a hf
  refine g_split hf (t := 18) rfl (fun hg7 => ?_) (fun hg7 => ?_)
  ·refine l_pass hf ⟨_, _, rfl, rfl, hg7⟩ rfl rfl ?_; intro a hf
   refine l_pass hf ⟨_, _, rfl, rfl, hg7⟩ rfl rfl ?_; intro a hf
   refine l_pass hf ⟨_, _, rfl, rfl, hg7⟩ rfl rfl ?_; intro a hf
   refine l_e hf rfl (ev_pickT hf rfl hg7 rfl) ?_; intro a hf
   refine wpList_nil ?_
   have hEE : Below w3.heap.size w3 w4 := hEc
   exact ⟨hf.sub ⟨rfl, rfl, rfl, rfl, look_bool rfl (by first | rfl | (simp only [hg7, Bool.true_and, Bool.false_and, Bool.true_or, Bool.false_or]; done) | simp [hg7]), trivial⟩, hEE⟩
  refine l_ev hf ⟨_, _, rfl, rfl, hg7⟩ rfl rfl (ev_loadN (l := [.int .i64 y.num.a, .int .i64 y.num.b, .int .i64 y.num.c, .int .i64 y.num.d, .int .i64 y.exp]) hf rfl tN_189 (hB3.at 0) rfl) ?_; intro a hf
  refine l_eff hf ⟨_, _, rfl, rfl, hg7⟩ rfl rfl (ef_call (vs := [.agg #[.int .i64 y.num.a, .int .i64 y.num.b, .int .i64 y.num.c, .int .i64 y.num.d, .int .i64 y.exp]]) hf rfl ff_193 (F193 _ y)) ?_; rintro a _ w5 ⟨rfl, hE⟩ hf
  replace hB2 := hB2.below hE
  replace hB3 := hB3.below hE
  replace hB4 := hB4.below hE
  replace hW := btr hW hE
  replace hEc := btr hEc hE
  clear hE
  refine l_ev hf ⟨_, _, rfl, rfl, hg7⟩ rfl rfl (ev_not hf rfl) ?_; intro a hf
  refine l_e hf rfl (ev_pickF hf rfl hg7 rfl) ?_; intro a hf
  refine wpList_nil ?_
  have hEE : Below w3.heap.size w3 w5 := hEc
  exact ⟨hf.sub ⟨rfl, rfl, rfl, rfl, look_bool rfl (by first | rfl | (simp only [hg7, Bool.true_and, Bool.false_and, Bool.true_or, Bool.false_or]; done) | simp [hg7]), trivial⟩, hEE⟩
 rintro a w6 ⟨hf, hE⟩
 replace hB2 := hB2.below hE
 replace hB3 := hB3.below hE
 replace hB4 := hB4.below hE
 replace hW := btr hW hE
 clear hE
 refine hK6 _ _ ?_; try clear hK6 K6
 refine c_if hf rfl (fun hc8 => ?_) (fun hc8 => ?_)
 ·have hc8b := hc8
  have hn : (dOk x && dOk y) = false := by revert hc8; cases dOk x <;> cases dOk y <;> simp
  refine wp_seq_k ?_; intro K9 hK9
  refine wp_region_lit ?_
  refine l_e hf rfl (ev_build (ps := []) (cs := [.int .i64 0, .int .i64 0, .int .i64 0, .int .i64 0, .int .i64 0]) hf rfl (fun _ => by first | rfl | kernel_rfl)) ?_; intro a hf
  refine l_f0 hf (ef_store (vs := [.int .i64 0, .int .i64 0, .int .i64 0, .int .i64 0, .int .i64 0]) (l' := [.int .i64 0, .int .i64 0, .int .i64 0, .int .i64 0, .int .i64 0]) hf rfl rfl sz_189 hB4 rfl rfl rfl rfl rfl) ?_; rintro a _ w7 ⟨ho, hb⟩ hf
  have hold := hB4
  replace hB2 := hB2.only ho (by omega)
  replace hB3 := hB3.only ho (by omega)
  replace hW := Below.only hW ho hlo4
  clear hold
  have hB4 := hb
  clear hb ho
  refine l_as hf rfl rfl ?_; intro a hf
  refine wpList_nil ?_
  refine hK9 _ _ ?_; try clear hK9 K9
  refine wp_ret ?_
  refine x_retS ?_
  refine c_ret hf (res2 hf rfl (ResV.cellN (l := [.int .i64 0, .int .i64 0, .int .i64 0, .int .i64 0, .int .i64 0]) rfl tN_189 (hB4.at 0) rfl) rfl) ?_
  exact ⟨by rw [dAddI, hn]; rfl, hW⟩
 have hc8b := hc8
 have hy : (dOk x && dOk y) = true := by revert hc8; cases dOk x <;> cases dOk y <;> simp
 have hx := dOk_exp (Bool.and_eq_true _ _ ▸ hy : dOk x = true ∧ dOk y = true).1
 have hz := dOk_exp (Bool.and_eq_true _ _ ▸ hy : dOk x = true ∧ dOk y = true).2
 refine wp_skip ?_
 refine hK5 _ _ ?_; try clear hK5 K5
 refine wp_seq_k ?_; intro K10 hK10
 refine wp_region_lit ?_
 refine l_e hf rfl (ev_fieldB hf rfl fd_189_1 (m := 4) rfl) ?_; intro a hf
 refine l_e hf rfl (ev_load1 hf rfl t1_3 (hB2.at 4)) ?_; intro a hf
 refine l_e hf rfl (ev_fieldB hf rfl fd_189_1 (m := 4) rfl) ?_; intro a hf
 refine l_e hf rfl (ev_load1 hf rfl t1_3 (hB3.at 4)) ?_; intro a hf
 refine l_e hf rfl (ev_max hf rfl rfl) ?_; intro a hf
 refine l_as hf rfl rfl ?_; intro a hf
 refine wpList_nil ?_
 refine hK10 _ _ ?_; try clear hK10 K10
 refine wp_seq_k ?_; intro K11 hK11
 refine wp_region_lit ?_
 refine l_e hf rfl (ev_loadN (l := [.int .i64 x.num.a, .int .i64 x.num.b, .int .i64 x.num.c, .int .i64 x.num.d, .int .i64 x.exp]) hf rfl tN_189 (hB2.at 0) rfl) ?_; intro a hf
 refine l_mv hf rfl rfl ?_; intro a hf
 refine l_f hf rfl (ef_call (vs := [.agg #[.int .i64 x.num.a, .int .i64 x.num.b, .int .i64 x.num.c, .int .i64 x.num.d, .int .i64 x.exp], .int .i64 (max x.exp y.exp)]) hf rfl ff_249 (F249 _ x (max x.exp y.exp) (by omega) (by omega) (by omega))) ?_; rintro a _ w8 ⟨rfl, hE⟩ hf
 replace hB2 := hB2.below hE
 replace hB3 := hB3.below hE
 replace hB4 := hB4.below hE
 replace hW := btr hW hE
 clear hE
 refine l_mv hf rfl rfl ?_; intro a hf
 refine l_e hf rfl (ev_extract (vs := [.agg #[.int .i64 (((dRaise x (max x.exp y.exp)).1).a), .int .i64 (((dRaise x (max x.exp y.exp)).1).b), .int .i64 (((dRaise x (max x.exp y.exp)).1).c), .int .i64 (((dRaise x (max x.exp y.exp)).1).d)], .bool ((dRaise x (max x.exp y.exp)).2)]) hf rfl rfl) ?_; intro a hf
 refine l_e hf rfl (ev_extract (vs := [.agg #[.int .i64 (((dRaise x (max x.exp y.exp)).1).a), .int .i64 (((dRaise x (max x.exp y.exp)).1).b), .int .i64 (((dRaise x (max x.exp y.exp)).1).c), .int .i64 (((dRaise x (max x.exp y.exp)).1).d)], .bool ((dRaise x (max x.exp y.exp)).2)]) hf rfl rfl) ?_; intro a hf
 refine l_f hf rfl (ef_alloc (zs := [.int .i64 0, .int .i64 0, .int .i64 0, .int .i64 0]) z_187 rfl) ?_; rintro a _ w9 ⟨b12, rfl, hl12, hE, hB12⟩ hf
 have hlo12 := Nat.le_trans hW.size hl12
 replace hB2 := hB2.below hE
 replace hB3 := hB3.below hE
 replace hB4 := hB4.below hE
 replace hW := btr hW hE
 clear hE
 refine l_f0 hf (ef_store (vs := [.int .i64 (((dRaise x (max x.exp y.exp)).1).a), .int .i64 (((dRaise x (max x.exp y.exp)).1).b), .int .i64 (((dRaise x (max x.exp y.exp)).1).c), .int .i64 (((dRaise x (max x.exp y.exp)).1).d)]) (l' := [.int .i64 (((dRaise x (max x.exp y.exp)).1).a), .int .i64 (((dRaise x (max x.exp y.exp)).1).b), .int .i64 (((dRaise x (max x.exp y.exp)).1).c), .int .i64 (((dRaise x (max x.exp y.exp)).1).d)]) hf rfl rfl sz_187 hB12 rfl rfl rfl rfl rfl) ?_; rintro a _ w10 ⟨ho, hb⟩ hf
 have hold := hB12
 replace hB2 := hB2.only ho (Blk.ne hB2 hold rfl)
 replace hB3 := hB3.only ho (Blk.ne hB3 hold rfl)
 replace hB4 := hB4.only ho (Blk.ne hB4 hold rfl)
 replace hW := Below.only hW ho hlo12
 clear hold
 have hB12 := hb
 clear hb ho
 refine l_as hf rfl rfl ?_; intro a hf
 refine wpList_nil ?_
 refine hK11 _ _ ?_; try clear hK11 K11
 refine wp_seq_k ?_; intro K13 hK13
 refine wp_region_lit ?_
 refine l_e hf rfl (ev_loadN (l := [.int .i64 y.num.a, .int .i64 y.num.b, .int .i64 y.num.c, .int .i64 y.num.d, .int .i64 y.exp]) hf rfl tN_189 (hB3.at 0) rfl) ?_; intro a hf
 refine l_mv hf rfl rfl ?_; intro a hf
 refine l_f hf rfl (ef_call (vs := [.agg #[.int .i64 y.num.a, .int .i64 y.num.b, .int .i64 y.num.c, .int .i64 y.num.d, .int .i64 y.exp], .int .i64 (max x.exp y.exp)]) hf rfl ff_249 (F249 _ y (max x.exp y.exp) (by omega) (by omega) (by omega))) ?_; rintro a _ w11 ⟨rfl, hE⟩ hf
 replace hB3 := hB3.below hE
 replace hB4 := hB4.below hE
 replace hB12 := hB12.below hE
 replace hW := btr hW hE
 clear hE
 refine l_mv hf rfl rfl ?_; intro a hf
 refine l_e hf rfl (ev_extract (vs := [.agg #[.int .i64 (((dRaise y (max x.exp y.exp)).1).a), .int .i64 (((dRaise y (max x.exp y.exp)).1).b), .int .i64 (((dRaise y (max x.exp y.exp)).1).c), .int .i64 (((dRaise y (max x.exp y.exp)).1).d)], .bool ((dRaise y (max x.exp y.exp)).2)]) hf rfl rfl) ?_; intro a hf
 refine l_e hf rfl (ev_extract (vs := [.agg #[.int .i64 (((dRaise y (max x.exp y.exp)).1).a), .int .i64 (((dRaise y (max x.exp y.exp)).1).b), .int .i64 (((dRaise y (max x.exp y.exp)).1).c), .int .i64 (((dRaise y (max x.exp y.exp)).1).d)], .bool ((dRaise y (max x.exp y.exp)).2)]) hf rfl rfl) ?_; intro a hf
 refine l_f hf rfl (ef_alloc (zs := [.int .i64 0, .int .i64 0, .int .i64 0, .int .i64 0]) z_187 rfl) ?_; rintro a _ w12 ⟨b14, rfl, hl14, hE, hB14⟩ hf
 have hne12_14 : b12 ≠ b14 := by have := hB12.lt; omega
 have hlo14 := Nat.le_trans hW.size hl14
 replace hB3 := hB3.below hE
 replace hB4 := hB4.below hE
 replace hB12 := hB12.below hE
 replace hW := btr hW hE
 clear hE
 refine l_f0 hf (ef_store (vs := [.int .i64 (((dRaise y (max x.exp y.exp)).1).a), .int .i64 (((dRaise y (max x.exp y.exp)).1).b), .int .i64 (((dRaise y (max x.exp y.exp)).1).c), .int .i64 (((dRaise y (max x.exp y.exp)).1).d)]) (l' := [.int .i64 (((dRaise y (max x.exp y.exp)).1).a), .int .i64 (((dRaise y (max x.exp y.exp)).1).b), .int .i64 (((dRaise y (max x.exp y.exp)).1).c), .int .i64 (((dRaise y (max x.exp y.exp)).1).d)]) hf rfl rfl sz_187 hB14 rfl rfl rfl rfl rfl) ?_; rintro a _ w13 ⟨ho, hb⟩ hf
 have hold := hB14
 replace hB3 := hB3.only ho (Blk.ne hB3 hold rfl)
 replace hB4 := hB4.only ho (Blk.ne hB4 hold rfl)
 replace hB12 := hB12.only ho (by omega)
 replace hW := Below.only hW ho hlo14
 clear hold
 have hB14 := hb
 clear hb ho
 refine l_as hf rfl rfl ?_; intro a hf
 refine wpList_nil ?_
 refine hK13 _ _ ?_; try clear hK13 K13
 refine wp_seq_k ?_; intro K15 hK15
 refine wp_region_lit ?_
 refine l_mv hf rfl rfl ?_; intro a hf
 refine l_e hf rfl (ev_loadN (l := [.int .i64 (((dRaise x (max x.exp y.exp)).1).a), .int .i64 (((dRaise x (max x.exp y.exp)).1).b), .int .i64 (((dRaise x (max x.exp y.exp)).1).c), .int .i64 (((dRaise x (max x.exp y.exp)).1).d)]) hf rfl tN_187 (hB12.at 0) rfl) ?_; intro a hf
 refine l_e hf rfl (ev_loadN (l := [.int .i64 (((dRaise y (max x.exp y.exp)).1).a), .int .i64 (((dRaise y (max x.exp y.exp)).1).b), .int .i64 (((dRaise y (max x.exp y.exp)).1).c), .int .i64 (((dRaise y (max x.exp y.exp)).1).d)]) hf rfl tN_187 (hB14.at 0) rfl) ?_; intro a hf
 refine l_f hf rfl (ef_callv (cs := []) (vs := [.agg #[.int .i64 (((dRaise x (max x.exp y.exp)).1).a), .int .i64 (((dRaise x (max x.exp y.exp)).1).b), .int .i64 (((dRaise x (max x.exp y.exp)).1).c), .int .i64 (((dRaise x (max x.exp y.exp)).1).d)], .agg #[.int .i64 (((dRaise y (max x.exp y.exp)).1).a), .int .i64 (((dRaise y (max x.exp y.exp)).1).b), .int .i64 (((dRaise y (max x.exp y.exp)).1).c), .int .i64 (((dRaise y (max x.exp y.exp)).1).d)]]) hf rfl rfl ff_240 (F240 _ ((dRaise x (max x.exp y.exp)).1) ((dRaise y (max x.exp y.exp)).1))) ?_; rintro a _ w14 ⟨rfl, hE⟩ hf
 replace hB4 := hB4.below hE
 replace hB12 := hB12.below hE
 replace hB14 := hB14.below hE
 replace hW := btr hW hE
 clear hE
 refine l_mv hf rfl rfl ?_; intro a hf
 refine l_e hf rfl (ev_extract (vs := [.agg #[.int .i64 ((rIf1 (rAdd ((dRaise x (max x.exp y.exp)).1) ((dRaise y (max x.exp y.exp)).1)) [((dRaise x (max x.exp y.exp)).1), ((dRaise y (max x.exp y.exp)).1)]).a), .int .i64 ((rIf1 (rAdd ((dRaise x (max x.exp y.exp)).1) ((dRaise y (max x.exp y.exp)).1)) [((dRaise x (max x.exp y.exp)).1), ((dRaise y (max x.exp y.exp)).1)]).b), .int .i64 ((rIf1 (rAdd ((dRaise x (max x.exp y.exp)).1) ((dRaise y (max x.exp y.exp)).1)) [((dRaise x (max x.exp y.exp)).1), ((dRaise y (max x.exp y.exp)).1)]).c), .int .i64 ((rIf1 (rAdd ((dRaise x (max x.exp y.exp)).1) ((dRaise y (max x.exp y.exp)).1)) [((dRaise x (max x.exp y.exp)).1), ((dRaise y (max x.exp y.exp)).1)]).d)], .bool (rIf2 (rAdd ((dRaise x (max x.exp y.exp)).1) ((dRaise y (max x.exp y.exp)).1)) [((dRaise x (max x.exp y.exp)).1), ((dRaise y (max x.exp y.exp)).1)])]) hf rfl rfl) ?_; intro a hf
 refine l_e hf rfl (ev_extract (vs := [.agg #[.int .i64 ((rIf1 (rAdd ((dRaise x (max x.exp y.exp)).1) ((dRaise y (max x.exp y.exp)).1)) [((dRaise x (max x.exp y.exp)).1), ((dRaise y (max x.exp y.exp)).1)]).a), .int .i64 ((rIf1 (rAdd ((dRaise x (max x.exp y.exp)).1) ((dRaise y (max x.exp y.exp)).1)) [((dRaise x (max x.exp y.exp)).1), ((dRaise y (max x.exp y.exp)).1)]).b), .int .i64 ((rIf1 (rAdd ((dRaise x (max x.exp y.exp)).1) ((dRaise y (max x.exp y.exp)).1)) [((dRaise x (max x.exp y.exp)).1), ((dRaise y (max x.exp y.exp)).1)]).c), .int .i64 ((rIf1 (rAdd ((dRaise x (max x.exp y.exp)).1) ((dRaise y (max x.exp y.exp)).1)) [((dRaise x (max x.exp y.exp)).1), ((dRaise y (max x.exp y.exp)).1)]).d)], .bool (rIf2 (rAdd ((dRaise x (max x.exp y.exp)).1) ((dRaise y (max x.exp y.exp)).1)) [((dRaise x (max x.exp y.exp)).1), ((dRaise y (max x.exp y.exp)).1)])]) hf rfl rfl) ?_; intro a hf
 refine l_f hf rfl (ef_alloc (zs := [.int .i64 0, .int .i64 0, .int .i64 0, .int .i64 0]) z_187 rfl) ?_; rintro a _ w15 ⟨b16, rfl, hl16, hE, hB16⟩ hf
 have hne12_16 : b12 ≠ b16 := by have := hB12.lt; omega
 have hne14_16 : b14 ≠ b16 := by have := hB14.lt; omega
 have hlo16 := Nat.le_trans hW.size hl16
 replace hB4 := hB4.below hE
 replace hB12 := hB12.below hE
 replace hB14 := hB14.below hE
 replace hW := btr hW hE
 clear hE
 refine l_f0 hf (ef_store (vs := [.int .i64 ((rIf1 (rAdd ((dRaise x (max x.exp y.exp)).1) ((dRaise y (max x.exp y.exp)).1)) [((dRaise x (max x.exp y.exp)).1), ((dRaise y (max x.exp y.exp)).1)]).a), .int .i64 ((rIf1 (rAdd ((dRaise x (max x.exp y.exp)).1) ((dRaise y (max x.exp y.exp)).1)) [((dRaise x (max x.exp y.exp)).1), ((dRaise y (max x.exp y.exp)).1)]).b), .int .i64 ((rIf1 (rAdd ((dRaise x (max x.exp y.exp)).1) ((dRaise y (max x.exp y.exp)).1)) [((dRaise x (max x.exp y.exp)).1), ((dRaise y (max x.exp y.exp)).1)]).c), .int .i64 ((rIf1 (rAdd ((dRaise x (max x.exp y.exp)).1) ((dRaise y (max x.exp y.exp)).1)) [((dRaise x (max x.exp y.exp)).1), ((dRaise y (max x.exp y.exp)).1)]).d)]) (l' := [.int .i64 ((rIf1 (rAdd ((dRaise x (max x.exp y.exp)).1) ((dRaise y (max x.exp y.exp)).1)) [((dRaise x (max x.exp y.exp)).1), ((dRaise y (max x.exp y.exp)).1)]).a), .int .i64 ((rIf1 (rAdd ((dRaise x (max x.exp y.exp)).1) ((dRaise y (max x.exp y.exp)).1)) [((dRaise x (max x.exp y.exp)).1), ((dRaise y (max x.exp y.exp)).1)]).b), .int .i64 ((rIf1 (rAdd ((dRaise x (max x.exp y.exp)).1) ((dRaise y (max x.exp y.exp)).1)) [((dRaise x (max x.exp y.exp)).1), ((dRaise y (max x.exp y.exp)).1)]).c), .int .i64 ((rIf1 (rAdd ((dRaise x (max x.exp y.exp)).1) ((dRaise y (max x.exp y.exp)).1)) [((dRaise x (max x.exp y.exp)).1), ((dRaise y (max x.exp y.exp)).1)]).d)]) hf rfl rfl sz_187 hB16 rfl rfl rfl rfl rfl) ?_; rintro a _ w16 ⟨ho, hb⟩ hf
 have hold := hB16
 replace hB4 := hB4.only ho (Blk.ne hB4 hold rfl)
 replace hB12 := hB12.only ho (by omega)
 replace hB14 := hB14.only ho (by omega)
 replace hW := Below.only hW ho hlo16
 clear hold
 have hB16 := hb
 clear hb ho
 refine l_as hf rfl rfl ?_; intro a hf
 refine wpList_nil ?_
 refine hK15 _ _ ?_; try clear hK15 K15
 refine wp_seq_k ?_; intro K17 hK17
 refine wp_seq_k ?_; intro K18 hK18
 refine c_cut (fun a w => Fr a 64 [(6, .pointer (some ⟨b4, 0, none⟩)), (8, .int .i64 (max x.exp y.exp)), (13, .pointer (some ⟨b16, 0, none⟩)), (57, .bool (((!((dRaise x (max x.exp y.exp)).2)) || (!((dRaise y (max x.exp y.exp)).2))) || (!(rIf2 (rAdd ((dRaise x (max x.exp y.exp)).1) ((dRaise y (max x.exp y.exp)).1)) [((dRaise x (max x.exp y.exp)).1), ((dRaise y (max x.exp y.exp)).1)]))))] ∧ w16 = w) ?_ ?_
 ·refine wp_region_lit ?_
  refine l_mv hf rfl rfl ?_; intro a hf
  refine l_e hf rfl (ev_not hf rfl) ?_; intro a hf
  refine l_mv hf rfl rfl ?_; intro a hf
  refine g_split hf (t := 50) rfl (fun hg19 => ?_) (fun hg19 => ?_)
  ·refine l_pass hf ⟨_, _, rfl, rfl, hg19⟩ rfl rfl ?_; intro a hf
   refine l_pass hf ⟨_, _, rfl, rfl, hg19⟩ rfl rfl ?_; intro a hf
   refine l_e hf rfl (ev_pickT hf rfl hg19 rfl) ?_; intro a hf
   refine l_mv hf rfl rfl ?_; intro a hf
   refine l_pass hf ⟨_, _, rfl, rfl, rfl⟩ rfl rfl ?_; intro a hf
   refine l_pass hf ⟨_, _, rfl, rfl, rfl⟩ rfl rfl ?_; intro a hf
   refine l_e hf rfl (ev_pickT hf rfl rfl rfl) ?_; intro a hf
   refine wpList_nil ?_
   exact ⟨hf.sub ⟨rfl, rfl, rfl, look_bool rfl (by first | rfl | (simp only [hc8b, hg19, Bool.true_and, Bool.false_and, Bool.true_or, Bool.false_or]; done) | simp [hc8b, hg19]), trivial⟩, rfl⟩
  refine l_ev hf ⟨_, _, rfl, rfl, hg19⟩ rfl rfl (ev_move hf rfl) ?_; intro a hf
  refine l_ev hf ⟨_, _, rfl, rfl, hg19⟩ rfl rfl (ev_not hf rfl) ?_; intro a hf
  refine l_e hf rfl (ev_pickF hf rfl hg19 rfl) ?_; intro a hf
  refine l_mv hf rfl rfl ?_; intro a hf
  refine g_split hf (t := 54) rfl (fun hg20 => ?_) (fun hg20 => ?_)
  ·refine l_pass hf ⟨_, _, rfl, rfl, hg20⟩ rfl rfl ?_; intro a hf
   refine l_pass hf ⟨_, _, rfl, rfl, hg20⟩ rfl rfl ?_; intro a hf
   refine l_e hf rfl (ev_pickT hf rfl hg20 rfl) ?_; intro a hf
   refine wpList_nil ?_
   exact ⟨hf.sub ⟨rfl, rfl, rfl, look_bool rfl (by first | rfl | (simp only [hc8b, hg19, hg20, Bool.true_and, Bool.false_and, Bool.true_or, Bool.false_or]; done) | simp [hc8b, hg19, hg20]), trivial⟩, rfl⟩
  refine l_ev hf ⟨_, _, rfl, rfl, hg20⟩ rfl rfl (ev_move hf rfl) ?_; intro a hf
  refine l_ev hf ⟨_, _, rfl, rfl, hg20⟩ rfl rfl (ev_not hf rfl) ?_; intro a hf
  refine l_e hf rfl (ev_pickF hf rfl hg20 rfl) ?_; intro a hf
  refine wpList_nil ?_
  exact ⟨hf.sub ⟨rfl, rfl, rfl, look_bool rfl (by first | rfl | (simp only [hc8b, hg19, hg20, Bool.true_and, Bool.false_and, Bool.true_or, Bool.false_or]; done) | simp [hc8b, hg19, hg20]), trivial⟩, rfl⟩
 rintro a _ ⟨hf, rfl⟩
 refine hK18 _ _ ?_; try clear hK18 K18
 refine c_if hf rfl (fun hc21 => ?_) (fun hc21 => ?_)
 ·have hc21b := hc21
  have hn2 := or3_false hc21
  refine wp_seq_k ?_; intro K22 hK22
  refine wp_region_lit ?_
  refine l_e hf rfl (ev_build (ps := []) (cs := [.int .i64 0, .int .i64 0, .int .i64 0, .int .i64 0, .int .i64 0]) hf rfl (fun _ => by first | rfl | kernel_rfl)) ?_; intro a hf
  refine l_f0 hf (ef_store (vs := [.int .i64 0, .int .i64 0, .int .i64 0, .int .i64 0, .int .i64 0]) (l' := [.int .i64 0, .int .i64 0, .int .i64 0, .int .i64 0, .int .i64 0]) hf rfl rfl sz_189 hB4 rfl rfl rfl rfl rfl) ?_; rintro a _ w17 ⟨ho, hb⟩ hf
  have hold := hB4
  replace hB16 := hB16.only ho (Blk.ne hB16 hold rfl)
  replace hW := Below.only hW ho hlo4
  clear hold
  have hB4 := hb
  clear hb ho
  refine l_as hf rfl rfl ?_; intro a hf
  refine wpList_nil ?_
  refine hK22 _ _ ?_; try clear hK22 K22
  refine wp_ret ?_
  refine x_retS ?_
  refine c_ret hf (res2 hf rfl (ResV.cellN (l := [.int .i64 0, .int .i64 0, .int .i64 0, .int .i64 0, .int .i64 0]) rfl tN_189 (hB4.at 0) rfl) rfl) ?_
  exact ⟨by rw [dAddI, if_pos hy, hn2]; rfl, hW⟩
 have hc21b := hc21
 have hy2 := or3_true hc21
 refine wp_skip ?_
 refine hK17 _ _ ?_; try clear hK17 K17
 refine wp_seq_k ?_; intro K23 hK23
 refine wp_region_lit ?_
 refine l_e hf rfl (ev_loadN (l := [.int .i64 ((rIf1 (rAdd ((dRaise x (max x.exp y.exp)).1) ((dRaise y (max x.exp y.exp)).1)) [((dRaise x (max x.exp y.exp)).1), ((dRaise y (max x.exp y.exp)).1)]).a), .int .i64 ((rIf1 (rAdd ((dRaise x (max x.exp y.exp)).1) ((dRaise y (max x.exp y.exp)).1)) [((dRaise x (max x.exp y.exp)).1), ((dRaise y (max x.exp y.exp)).1)]).b), .int .i64 ((rIf1 (rAdd ((dRaise x (max x.exp y.exp)).1) ((dRaise y (max x.exp y.exp)).1)) [((dRaise x (max x.exp y.exp)).1), ((dRaise y (max x.exp y.exp)).1)]).c), .int .i64 ((rIf1 (rAdd ((dRaise x (max x.exp y.exp)).1) ((dRaise y (max x.exp y.exp)).1)) [((dRaise x (max x.exp y.exp)).1), ((dRaise y (max x.exp y.exp)).1)]).d)]) hf rfl tN_187 (hB16.at 0) rfl) ?_; intro a hf
 refine l_mv hf rfl rfl ?_; intro a hf
 refine l_f hf rfl (ef_call (vs := [.agg #[.int .i64 ((rIf1 (rAdd ((dRaise x (max x.exp y.exp)).1) ((dRaise y (max x.exp y.exp)).1)) [((dRaise x (max x.exp y.exp)).1), ((dRaise y (max x.exp y.exp)).1)]).a), .int .i64 ((rIf1 (rAdd ((dRaise x (max x.exp y.exp)).1) ((dRaise y (max x.exp y.exp)).1)) [((dRaise x (max x.exp y.exp)).1), ((dRaise y (max x.exp y.exp)).1)]).b), .int .i64 ((rIf1 (rAdd ((dRaise x (max x.exp y.exp)).1) ((dRaise y (max x.exp y.exp)).1)) [((dRaise x (max x.exp y.exp)).1), ((dRaise y (max x.exp y.exp)).1)]).c), .int .i64 ((rIf1 (rAdd ((dRaise x (max x.exp y.exp)).1) ((dRaise y (max x.exp y.exp)).1)) [((dRaise x (max x.exp y.exp)).1), ((dRaise y (max x.exp y.exp)).1)]).d)], .int .i64 (max x.exp y.exp)]) hf rfl ff_228 (F228 _ (rIf1 (rAdd ((dRaise x (max x.exp y.exp)).1) ((dRaise y (max x.exp y.exp)).1)) [((dRaise x (max x.exp y.exp)).1), ((dRaise y (max x.exp y.exp)).1)]) (max x.exp y.exp))) ?_; rintro a _ w18 ⟨rfl, hE⟩ hf
 replace hB4 := hB4.below hE
 replace hB16 := hB16.below hE
 replace hW := btr hW hE
 clear hE
 refine l_e hf rfl (ev_extract (vs := [.agg #[.int .i64 (((dOf (rIf1 (rAdd ((dRaise x (max x.exp y.exp)).1) ((dRaise y (max x.exp y.exp)).1)) [((dRaise x (max x.exp y.exp)).1), ((dRaise y (max x.exp y.exp)).1)]) (max x.exp y.exp)).getD dZ).num.a), .int .i64 (((dOf (rIf1 (rAdd ((dRaise x (max x.exp y.exp)).1) ((dRaise y (max x.exp y.exp)).1)) [((dRaise x (max x.exp y.exp)).1), ((dRaise y (max x.exp y.exp)).1)]) (max x.exp y.exp)).getD dZ).num.b), .int .i64 (((dOf (rIf1 (rAdd ((dRaise x (max x.exp y.exp)).1) ((dRaise y (max x.exp y.exp)).1)) [((dRaise x (max x.exp y.exp)).1), ((dRaise y (max x.exp y.exp)).1)]) (max x.exp y.exp)).getD dZ).num.c), .int .i64 (((dOf (rIf1 (rAdd ((dRaise x (max x.exp y.exp)).1) ((dRaise y (max x.exp y.exp)).1)) [((dRaise x (max x.exp y.exp)).1), ((dRaise y (max x.exp y.exp)).1)]) (max x.exp y.exp)).getD dZ).num.d), .int .i64 (((dOf (rIf1 (rAdd ((dRaise x (max x.exp y.exp)).1) ((dRaise y (max x.exp y.exp)).1)) [((dRaise x (max x.exp y.exp)).1), ((dRaise y (max x.exp y.exp)).1)]) (max x.exp y.exp)).getD dZ).exp)], .bool ((dOf (rIf1 (rAdd ((dRaise x (max x.exp y.exp)).1) ((dRaise y (max x.exp y.exp)).1)) [((dRaise x (max x.exp y.exp)).1), ((dRaise y (max x.exp y.exp)).1)]) (max x.exp y.exp)).isSome)]) hf rfl rfl) ?_; intro a hf
 refine l_e hf rfl (ev_extract (vs := [.agg #[.int .i64 (((dOf (rIf1 (rAdd ((dRaise x (max x.exp y.exp)).1) ((dRaise y (max x.exp y.exp)).1)) [((dRaise x (max x.exp y.exp)).1), ((dRaise y (max x.exp y.exp)).1)]) (max x.exp y.exp)).getD dZ).num.a), .int .i64 (((dOf (rIf1 (rAdd ((dRaise x (max x.exp y.exp)).1) ((dRaise y (max x.exp y.exp)).1)) [((dRaise x (max x.exp y.exp)).1), ((dRaise y (max x.exp y.exp)).1)]) (max x.exp y.exp)).getD dZ).num.b), .int .i64 (((dOf (rIf1 (rAdd ((dRaise x (max x.exp y.exp)).1) ((dRaise y (max x.exp y.exp)).1)) [((dRaise x (max x.exp y.exp)).1), ((dRaise y (max x.exp y.exp)).1)]) (max x.exp y.exp)).getD dZ).num.c), .int .i64 (((dOf (rIf1 (rAdd ((dRaise x (max x.exp y.exp)).1) ((dRaise y (max x.exp y.exp)).1)) [((dRaise x (max x.exp y.exp)).1), ((dRaise y (max x.exp y.exp)).1)]) (max x.exp y.exp)).getD dZ).num.d), .int .i64 (((dOf (rIf1 (rAdd ((dRaise x (max x.exp y.exp)).1) ((dRaise y (max x.exp y.exp)).1)) [((dRaise x (max x.exp y.exp)).1), ((dRaise y (max x.exp y.exp)).1)]) (max x.exp y.exp)).getD dZ).exp)], .bool ((dOf (rIf1 (rAdd ((dRaise x (max x.exp y.exp)).1) ((dRaise y (max x.exp y.exp)).1)) [((dRaise x (max x.exp y.exp)).1), ((dRaise y (max x.exp y.exp)).1)]) (max x.exp y.exp)).isSome)]) hf rfl rfl) ?_; intro a hf
 refine l_f0 hf (ef_store (vs := [.int .i64 (((dOf (rIf1 (rAdd ((dRaise x (max x.exp y.exp)).1) ((dRaise y (max x.exp y.exp)).1)) [((dRaise x (max x.exp y.exp)).1), ((dRaise y (max x.exp y.exp)).1)]) (max x.exp y.exp)).getD dZ).num.a), .int .i64 (((dOf (rIf1 (rAdd ((dRaise x (max x.exp y.exp)).1) ((dRaise y (max x.exp y.exp)).1)) [((dRaise x (max x.exp y.exp)).1), ((dRaise y (max x.exp y.exp)).1)]) (max x.exp y.exp)).getD dZ).num.b), .int .i64 (((dOf (rIf1 (rAdd ((dRaise x (max x.exp y.exp)).1) ((dRaise y (max x.exp y.exp)).1)) [((dRaise x (max x.exp y.exp)).1), ((dRaise y (max x.exp y.exp)).1)]) (max x.exp y.exp)).getD dZ).num.c), .int .i64 (((dOf (rIf1 (rAdd ((dRaise x (max x.exp y.exp)).1) ((dRaise y (max x.exp y.exp)).1)) [((dRaise x (max x.exp y.exp)).1), ((dRaise y (max x.exp y.exp)).1)]) (max x.exp y.exp)).getD dZ).num.d), .int .i64 (((dOf (rIf1 (rAdd ((dRaise x (max x.exp y.exp)).1) ((dRaise y (max x.exp y.exp)).1)) [((dRaise x (max x.exp y.exp)).1), ((dRaise y (max x.exp y.exp)).1)]) (max x.exp y.exp)).getD dZ).exp)]) (l' := [.int .i64 (((dOf (rIf1 (rAdd ((dRaise x (max x.exp y.exp)).1) ((dRaise y (max x.exp y.exp)).1)) [((dRaise x (max x.exp y.exp)).1), ((dRaise y (max x.exp y.exp)).1)]) (max x.exp y.exp)).getD dZ).num.a), .int .i64 (((dOf (rIf1 (rAdd ((dRaise x (max x.exp y.exp)).1) ((dRaise y (max x.exp y.exp)).1)) [((dRaise x (max x.exp y.exp)).1), ((dRaise y (max x.exp y.exp)).1)]) (max x.exp y.exp)).getD dZ).num.b), .int .i64 (((dOf (rIf1 (rAdd ((dRaise x (max x.exp y.exp)).1) ((dRaise y (max x.exp y.exp)).1)) [((dRaise x (max x.exp y.exp)).1), ((dRaise y (max x.exp y.exp)).1)]) (max x.exp y.exp)).getD dZ).num.c), .int .i64 (((dOf (rIf1 (rAdd ((dRaise x (max x.exp y.exp)).1) ((dRaise y (max x.exp y.exp)).1)) [((dRaise x (max x.exp y.exp)).1), ((dRaise y (max x.exp y.exp)).1)]) (max x.exp y.exp)).getD dZ).num.d), .int .i64 (((dOf (rIf1 (rAdd ((dRaise x (max x.exp y.exp)).1) ((dRaise y (max x.exp y.exp)).1)) [((dRaise x (max x.exp y.exp)).1), ((dRaise y (max x.exp y.exp)).1)]) (max x.exp y.exp)).getD dZ).exp)]) hf rfl rfl sz_189 hB4 rfl rfl rfl rfl rfl) ?_; rintro a _ w19 ⟨ho, hb⟩ hf
 have hold := hB4
 replace hB16 := hB16.only ho (Blk.ne hB16 hold rfl)
 replace hW := Below.only hW ho hlo4
 clear hold
 have hB4 := hb
 clear hb ho
 refine l_as hf rfl rfl ?_; intro a hf
 refine wpList_nil ?_
 refine hK23 _ _ ?_; try clear hK23 K23
 refine wp_ret ?_
 refine c_ret hf (res2 hf rfl (ResV.cellN (l := [.int .i64 (((dOf (rIf1 (rAdd ((dRaise x (max x.exp y.exp)).1) ((dRaise y (max x.exp y.exp)).1)) [((dRaise x (max x.exp y.exp)).1), ((dRaise y (max x.exp y.exp)).1)]) (max x.exp y.exp)).getD dZ).num.a), .int .i64 (((dOf (rIf1 (rAdd ((dRaise x (max x.exp y.exp)).1) ((dRaise y (max x.exp y.exp)).1)) [((dRaise x (max x.exp y.exp)).1), ((dRaise y (max x.exp y.exp)).1)]) (max x.exp y.exp)).getD dZ).num.b), .int .i64 (((dOf (rIf1 (rAdd ((dRaise x (max x.exp y.exp)).1) ((dRaise y (max x.exp y.exp)).1)) [((dRaise x (max x.exp y.exp)).1), ((dRaise y (max x.exp y.exp)).1)]) (max x.exp y.exp)).getD dZ).num.c), .int .i64 (((dOf (rIf1 (rAdd ((dRaise x (max x.exp y.exp)).1) ((dRaise y (max x.exp y.exp)).1)) [((dRaise x (max x.exp y.exp)).1), ((dRaise y (max x.exp y.exp)).1)]) (max x.exp y.exp)).getD dZ).num.d), .int .i64 (((dOf (rIf1 (rAdd ((dRaise x (max x.exp y.exp)).1) ((dRaise y (max x.exp y.exp)).1)) [((dRaise x (max x.exp y.exp)).1), ((dRaise y (max x.exp y.exp)).1)]) (max x.exp y.exp)).getD dZ).exp)]) rfl tN_189 (hB4.at 0) rfl) rfl) ?_
 exact ⟨by rw [dAddI, if_pos hy, hy2]; rfl, hW⟩
theorem F223 (w0 : World) (x : Dy) (y : Dy) : Ret Tryz.prog 223 [.agg #[.int .i64 x.num.a, .int .i64 x.num.b, .int .i64 x.num.c, .int .i64 x.num.d, .int .i64 x.exp], .agg #[.int .i64 y.num.a, .int .i64 y.num.b, .int .i64 y.num.c, .int .i64 y.num.d, .int .i64 y.exp]] w0 (fun v w => v = .tuple #[dV ((dAddI x y).getD dZ), .bool ((dAddI x y).isSome)] ∧ Below w0.heap.size w0 w) := by
 refine enter Tryz.func223 rfl 11 rfl rfl ?_
 intro a hf
 have hW : Below w0.heap.size w0 w0 := Below.refl _ _
 refine wp_seq_k ?_; intro K1 hK1
 refine wp_region_lit ?_
 refine l_f hf rfl (ef_box (zs := [.int .i64 x.num.a, .int .i64 x.num.b, .int .i64 x.num.c, .int .i64 x.num.d, .int .i64 x.exp]) hf rfl rfl) ?_; rintro a _ w1 ⟨b2, rfl, hl2, hE, hB2⟩ hf
 have hlo2 := Nat.le_trans hW.size hl2
 replace hW := btr hW hE
 clear hE
 refine l_f hf rfl (ef_box (zs := [.int .i64 y.num.a, .int .i64 y.num.b, .int .i64 y.num.c, .int .i64 y.num.d, .int .i64 y.exp]) hf rfl rfl) ?_; rintro a _ w2 ⟨b3, rfl, hl3, hE, hB3⟩ hf
 have hne2_3 : b2 ≠ b3 := by have := hB2.lt; omega
 have hlo3 := Nat.le_trans hW.size hl3
 replace hB2 := hB2.below hE
 replace hW := btr hW hE
 clear hE
 refine l_f hf rfl (ef_alloc (zs := [.int .i64 0, .int .i64 0, .int .i64 0, .int .i64 0, .int .i64 0]) z_189 rfl) ?_; rintro a _ w3 ⟨b4, rfl, hl4, hE, hB4⟩ hf
 have hne2_4 : b2 ≠ b4 := by have := hB2.lt; omega
 have hne3_4 : b3 ≠ b4 := by have := hB3.lt; omega
 have hlo4 := Nat.le_trans hW.size hl4
 replace hB2 := hB2.below hE
 replace hB3 := hB3.below hE
 replace hW := btr hW hE
 clear hE
 refine l_as hf rfl rfl ?_; intro a hf
 refine wpList_nil ?_
 refine hK1 _ _ ?_; try clear hK1 K1
 refine wp_seq_k ?_; intro K5 hK5
 refine wp_region_lit ?_
 refine l_e hf rfl (ev_loadN (l := [.int .i64 x.num.a, .int .i64 x.num.b, .int .i64 x.num.c, .int .i64 x.num.d, .int .i64 x.exp]) hf rfl tN_189 (hB2.at 0) rfl) ?_; intro a hf
 refine l_e hf rfl (ev_loadN (l := [.int .i64 y.num.a, .int .i64 y.num.b, .int .i64 y.num.c, .int .i64 y.num.d, .int .i64 y.exp]) hf rfl tN_189 (hB3.at 0) rfl) ?_; intro a hf
 refine l_f hf rfl (ef_call (vs := [.agg #[.int .i64 x.num.a, .int .i64 x.num.b, .int .i64 x.num.c, .int .i64 x.num.d, .int .i64 x.exp], .agg #[.int .i64 y.num.a, .int .i64 y.num.b, .int .i64 y.num.c, .int .i64 y.num.d, .int .i64 y.exp], .func (.func 240) #[] #[]]) hf rfl ff_239 (F239 _ x y)) ?_; rintro a _ w4 ⟨rfl, hE⟩ hf
 replace hB2 := hB2.below hE
 replace hB3 := hB3.below hE
 replace hB4 := hB4.below hE
 replace hW := btr hW hE
 clear hE
 refine l_e hf rfl (ev_extract (vs := [.agg #[.int .i64 (((dAddI x y).getD dZ).num.a), .int .i64 (((dAddI x y).getD dZ).num.b), .int .i64 (((dAddI x y).getD dZ).num.c), .int .i64 (((dAddI x y).getD dZ).num.d), .int .i64 (((dAddI x y).getD dZ).exp)], .bool ((dAddI x y).isSome)]) hf rfl rfl) ?_; intro a hf
 refine l_e hf rfl (ev_extract (vs := [.agg #[.int .i64 (((dAddI x y).getD dZ).num.a), .int .i64 (((dAddI x y).getD dZ).num.b), .int .i64 (((dAddI x y).getD dZ).num.c), .int .i64 (((dAddI x y).getD dZ).num.d), .int .i64 (((dAddI x y).getD dZ).exp)], .bool ((dAddI x y).isSome)]) hf rfl rfl) ?_; intro a hf
 refine l_f0 hf (ef_store (vs := [.int .i64 (((dAddI x y).getD dZ).num.a), .int .i64 (((dAddI x y).getD dZ).num.b), .int .i64 (((dAddI x y).getD dZ).num.c), .int .i64 (((dAddI x y).getD dZ).num.d), .int .i64 (((dAddI x y).getD dZ).exp)]) (l' := [.int .i64 (((dAddI x y).getD dZ).num.a), .int .i64 (((dAddI x y).getD dZ).num.b), .int .i64 (((dAddI x y).getD dZ).num.c), .int .i64 (((dAddI x y).getD dZ).num.d), .int .i64 (((dAddI x y).getD dZ).exp)]) hf rfl rfl sz_189 hB4 rfl rfl rfl rfl rfl) ?_; rintro a _ w5 ⟨ho, hb⟩ hf
 have hold := hB4
 replace hB2 := hB2.only ho (by omega)
 replace hB3 := hB3.only ho (by omega)
 replace hW := Below.only hW ho hlo4
 clear hold
 have hB4 := hb
 clear hb ho
 refine l_as hf rfl rfl ?_; intro a hf
 refine wpList_nil ?_
 refine hK5 _ _ ?_; try clear hK5 K5
 refine wp_ret ?_
 refine c_ret hf (res2 hf rfl (ResV.cellN (l := [.int .i64 (((dAddI x y).getD dZ).num.a), .int .i64 (((dAddI x y).getD dZ).num.b), .int .i64 (((dAddI x y).getD dZ).num.c), .int .i64 (((dAddI x y).getD dZ).num.d), .int .i64 (((dAddI x y).getD dZ).exp)]) rfl tN_189 (hB4.at 0) rfl) rfl) ?_
 exact ⟨rfl, hW⟩
theorem F195 (w0 : World) (x : Dy) (y : Dy) : Ret Tryz.prog 195 [.agg #[.int .i64 x.num.a, .int .i64 x.num.b, .int .i64 x.num.c, .int .i64 x.num.d, .int .i64 x.exp], .agg #[.int .i64 y.num.a, .int .i64 y.num.b, .int .i64 y.num.c, .int .i64 y.num.d, .int .i64 y.exp]] w0 (fun v w => v = .tuple #[dV ((dMulI x y).getD dZ), .bool ((dMulI x y).isSome)] ∧ Below w0.heap.size w0 w) := by
 refine enter Tryz.func195 rfl 38 rfl rfl ?_
 intro a hf
 have hW : Below w0.heap.size w0 w0 := Below.refl _ _
 refine wp_seq_k ?_; intro K1 hK1
 refine wp_region_lit ?_
 refine l_f hf rfl (ef_box (zs := [.int .i64 x.num.a, .int .i64 x.num.b, .int .i64 x.num.c, .int .i64 x.num.d, .int .i64 x.exp]) hf rfl rfl) ?_; rintro a _ w1 ⟨b2, rfl, hl2, hE, hB2⟩ hf
 have hlo2 := Nat.le_trans hW.size hl2
 replace hW := btr hW hE
 clear hE
 refine l_f hf rfl (ef_box (zs := [.int .i64 y.num.a, .int .i64 y.num.b, .int .i64 y.num.c, .int .i64 y.num.d, .int .i64 y.exp]) hf rfl rfl) ?_; rintro a _ w2 ⟨b3, rfl, hl3, hE, hB3⟩ hf
 have hne2_3 : b2 ≠ b3 := by have := hB2.lt; omega
 have hlo3 := Nat.le_trans hW.size hl3
 replace hB2 := hB2.below hE
 replace hW := btr hW hE
 clear hE
 refine l_f hf rfl (ef_alloc (zs := [.int .i64 0, .int .i64 0, .int .i64 0, .int .i64 0, .int .i64 0]) z_189 rfl) ?_; rintro a _ w3 ⟨b4, rfl, hl4, hE, hB4⟩ hf
 have hne2_4 : b2 ≠ b4 := by have := hB2.lt; omega
 have hne3_4 : b3 ≠ b4 := by have := hB3.lt; omega
 have hlo4 := Nat.le_trans hW.size hl4
 replace hB2 := hB2.below hE
 replace hB3 := hB3.below hE
 replace hW := btr hW hE
 clear hE
 refine l_as hf rfl rfl ?_; intro a hf
 refine wpList_nil ?_
 refine hK1 _ _ ?_; try clear hK1 K1
 refine wp_seq_k ?_; intro K5 hK5
 refine wp_region_lit ?_
 refine l_e hf rfl (ev_fieldB hf rfl fd_189_0 (m := 0) rfl) ?_; intro a hf
 refine l_e hf rfl (ev_loadN (l := [.int .i64 x.num.a, .int .i64 x.num.b, .int .i64 x.num.c, .int .i64 x.num.d]) hf rfl tN_187 ((hB2.at 0).take 4) rfl) ?_; intro a hf
 refine l_e hf rfl (ev_fieldB hf rfl fd_189_0 (m := 0) rfl) ?_; intro a hf
 refine l_e hf rfl (ev_loadN (l := [.int .i64 y.num.a, .int .i64 y.num.b, .int .i64 y.num.c, .int .i64 y.num.d]) hf rfl tN_187 ((hB3.at 0).take 4) rfl) ?_; intro a hf
 refine l_f hf rfl (ef_call (vs := [.agg #[.int .i64 x.num.a, .int .i64 x.num.b, .int .i64 x.num.c, .int .i64 x.num.d], .agg #[.int .i64 y.num.a, .int .i64 y.num.b, .int .i64 y.num.c, .int .i64 y.num.d]]) hf rfl ff_227 (F227 _ x.num y.num)) ?_; rintro a _ w4 ⟨rfl, hE⟩ hf
 replace hB2 := hB2.below hE
 replace hB3 := hB3.below hE
 replace hB4 := hB4.below hE
 replace hW := btr hW hE
 clear hE
 refine l_mv hf rfl rfl ?_; intro a hf
 refine l_e hf rfl (ev_extract (vs := [.agg #[.int .i64 ((rIf1 (rMul x.num y.num) [x.num, y.num]).a), .int .i64 ((rIf1 (rMul x.num y.num) [x.num, y.num]).b), .int .i64 ((rIf1 (rMul x.num y.num) [x.num, y.num]).c), .int .i64 ((rIf1 (rMul x.num y.num) [x.num, y.num]).d)], .bool (rIf2 (rMul x.num y.num) [x.num, y.num])]) hf rfl rfl) ?_; intro a hf
 refine l_e hf rfl (ev_extract (vs := [.agg #[.int .i64 ((rIf1 (rMul x.num y.num) [x.num, y.num]).a), .int .i64 ((rIf1 (rMul x.num y.num) [x.num, y.num]).b), .int .i64 ((rIf1 (rMul x.num y.num) [x.num, y.num]).c), .int .i64 ((rIf1 (rMul x.num y.num) [x.num, y.num]).d)], .bool (rIf2 (rMul x.num y.num) [x.num, y.num])]) hf rfl rfl) ?_; intro a hf
 refine l_f hf rfl (ef_alloc (zs := [.int .i64 0, .int .i64 0, .int .i64 0, .int .i64 0]) z_187 rfl) ?_; rintro a _ w5 ⟨b6, rfl, hl6, hE, hB6⟩ hf
 have hlo6 := Nat.le_trans hW.size hl6
 replace hB2 := hB2.below hE
 replace hB3 := hB3.below hE
 replace hB4 := hB4.below hE
 replace hW := btr hW hE
 clear hE
 refine l_f0 hf (ef_store (vs := [.int .i64 ((rIf1 (rMul x.num y.num) [x.num, y.num]).a), .int .i64 ((rIf1 (rMul x.num y.num) [x.num, y.num]).b), .int .i64 ((rIf1 (rMul x.num y.num) [x.num, y.num]).c), .int .i64 ((rIf1 (rMul x.num y.num) [x.num, y.num]).d)]) (l' := [.int .i64 ((rIf1 (rMul x.num y.num) [x.num, y.num]).a), .int .i64 ((rIf1 (rMul x.num y.num) [x.num, y.num]).b), .int .i64 ((rIf1 (rMul x.num y.num) [x.num, y.num]).c), .int .i64 ((rIf1 (rMul x.num y.num) [x.num, y.num]).d)]) hf rfl rfl sz_187 hB6 rfl rfl rfl rfl rfl) ?_; rintro a _ w6 ⟨ho, hb⟩ hf
 have hold := hB6
 replace hB2 := hB2.only ho (Blk.ne hB2 hold rfl)
 replace hB3 := hB3.only ho (Blk.ne hB3 hold rfl)
 replace hB4 := hB4.only ho (Blk.ne hB4 hold rfl)
 replace hW := Below.only hW ho hlo6
 clear hold
 have hB6 := hb
 clear hb ho
 refine l_as hf rfl rfl ?_; intro a hf
 refine wpList_nil ?_
 refine hK5 _ _ ?_; try clear hK5 K5
 refine wp_seq_k ?_; intro K7 hK7
 refine wp_seq_k ?_; intro K8 hK8
 refine c_cut (fun a w => Fr a 38 [(2, .pointer (some ⟨b2, 0, none⟩)), (3, .pointer (some ⟨b3, 0, none⟩)), (4, .pointer (some ⟨b4, 0, none⟩)), (6, .pointer (some ⟨b6, 0, none⟩)), (27, .bool (((!(dOk x)) || (!(dOk y))) || (!(rIf2 (rMul x.num y.num) [x.num, y.num]))))] ∧ Below w6.heap.size w6 w) ?_ ?_
 ·have hEc : Below w6.heap.size w6 w6 := Below.refl _ _
  refine wp_region_lit ?_
  refine l_e hf rfl (ev_loadN (l := [.int .i64 x.num.a, .int .i64 x.num.b, .int .i64 x.num.c, .int .i64 x.num.d, .int .i64 x.exp]) hf rfl tN_189 (hB2.at 0) rfl) ?_; intro a hf
  refine l_f hf rfl (ef_call (vs := [.agg #[.int .i64 x.num.a, .int .i64 x.num.b, .int .i64 x.num.c, .int .i64 x.num.d, .int .i64 x.exp]]) hf rfl ff_193 (F193 _ x)) ?_; rintro a _ w7 ⟨rfl, hE⟩ hf
  replace hB2 := hB2.below hE
  replace hB3 := hB3.below hE
  replace hB4 := hB4.below hE
  replace hB6 := hB6.below hE
  replace hW := btr hW hE
  replace hEc := btr hEc hE
  clear hE
  refine l_e hf rfl (ev_not hf rfl) ?_; intro a hf
  refine l_mv hf rfl rfl ?_; intro a hf
  refine g_split hf (t := 19) rfl (fun hg9 => ?_) (fun hg9 => ?_)
  ·refine l_pass hf ⟨_, _, rfl, rfl, hg9⟩ rfl rfl ?_; intro a hf
   refine l_pass hf ⟨_, _, rfl, rfl, hg9⟩ rfl rfl ?_; intro a hf
   refine l_pass hf ⟨_, _, rfl, rfl, hg9⟩ rfl rfl ?_; intro a hf
   refine l_e hf rfl (ev_pickT hf rfl hg9 rfl) ?_; intro a hf
   refine l_mv hf rfl rfl ?_; intro a hf
   refine l_pass hf ⟨_, _, rfl, rfl, rfl⟩ rfl rfl ?_; intro a hf
   refine l_pass hf ⟨_, _, rfl, rfl, rfl⟩ rfl rfl ?_; intro a hf
   refine l_e hf rfl (ev_pickT hf rfl rfl rfl) ?_; intro a hf
   refine wpList_nil ?_
   have hEE : Below w6.heap.size w6 w7 := hEc
   exact ⟨hf.sub ⟨rfl, rfl, rfl, rfl, look_bool rfl (by first | rfl | (simp only [hg9, Bool.true_and, Bool.false_and, Bool.true_or, Bool.false_or]; done) | simp [hg9]), trivial⟩, hEE⟩
  refine l_ev hf ⟨_, _, rfl, rfl, hg9⟩ rfl rfl (ev_loadN (l := [.int .i64 y.num.a, .int .i64 y.num.b, .int .i64 y.num.c, .int .i64 y.num.d, .int .i64 y.exp]) hf rfl tN_189 (hB3.at 0) rfl) ?_; intro a hf
  refine l_eff hf ⟨_, _, rfl, rfl, hg9⟩ rfl rfl (ef_call (vs := [.agg #[.int .i64 y.num.a, .int .i64 y.num.b, .int .i64 y.num.c, .int .i64 y.num.d, .int .i64 y.exp]]) hf rfl ff_193 (F193 _ y)) ?_; rintro a _ w8 ⟨rfl, hE⟩ hf
  replace hB2 := hB2.below hE
  replace hB3 := hB3.below hE
  replace hB4 := hB4.below hE
  replace hB6 := hB6.below hE
  replace hW := btr hW hE
  replace hEc := btr hEc hE
  clear hE
  refine l_ev hf ⟨_, _, rfl, rfl, hg9⟩ rfl rfl (ev_not hf rfl) ?_; intro a hf
  refine l_e hf rfl (ev_pickF hf rfl hg9 rfl) ?_; intro a hf
  refine l_mv hf rfl rfl ?_; intro a hf
  refine g_split hf (t := 24) rfl (fun hg10 => ?_) (fun hg10 => ?_)
  ·refine l_pass hf ⟨_, _, rfl, rfl, hg10⟩ rfl rfl ?_; intro a hf
   refine l_pass hf ⟨_, _, rfl, rfl, hg10⟩ rfl rfl ?_; intro a hf
   refine l_e hf rfl (ev_pickT hf rfl hg10 rfl) ?_; intro a hf
   refine wpList_nil ?_
   have hEE : Below w6.heap.size w6 w8 := hEc
   exact ⟨hf.sub ⟨rfl, rfl, rfl, rfl, look_bool rfl (by first | rfl | (simp only [hg9, hg10, Bool.true_and, Bool.false_and, Bool.true_or, Bool.false_or]; done) | simp [hg9, hg10]), trivial⟩, hEE⟩
  refine l_ev hf ⟨_, _, rfl, rfl, hg10⟩ rfl rfl (ev_move hf rfl) ?_; intro a hf
  refine l_ev hf ⟨_, _, rfl, rfl, hg10⟩ rfl rfl (ev_not hf rfl) ?_; intro a hf
  refine l_e hf rfl (ev_pickF hf rfl hg10 rfl) ?_; intro a hf
  refine wpList_nil ?_
  have hEE : Below w6.heap.size w6 w8 := hEc
  exact ⟨hf.sub ⟨rfl, rfl, rfl, rfl, look_bool rfl (by first | rfl | (simp only [hg9, hg10, Bool.true_and, Bool.false_and, Bool.true_or, Bool.false_or]; done) | simp [hg9, hg10]), trivial⟩, hEE⟩
 rintro a w9 ⟨hf, hE⟩
 replace hB2 := hB2.below hE
 replace hB3 := hB3.below hE
 replace hB4 := hB4.below hE
 replace hB6 := hB6.below hE
 replace hW := btr hW hE
 clear hE
 refine hK8 _ _ ?_; try clear hK8 K8
 refine c_if hf rfl (fun hc11 => ?_) (fun hc11 => ?_)
 ·have hc11b := hc11
  have hn := or3_false hc11
  refine wp_seq_k ?_; intro K12 hK12
  refine wp_region_lit ?_
  refine l_e hf rfl (ev_build (ps := []) (cs := [.int .i64 0, .int .i64 0, .int .i64 0, .int .i64 0, .int .i64 0]) hf rfl (fun _ => by first | rfl | kernel_rfl)) ?_; intro a hf
  refine l_f0 hf (ef_store (vs := [.int .i64 0, .int .i64 0, .int .i64 0, .int .i64 0, .int .i64 0]) (l' := [.int .i64 0, .int .i64 0, .int .i64 0, .int .i64 0, .int .i64 0]) hf rfl rfl sz_189 hB4 rfl rfl rfl rfl rfl) ?_; rintro a _ w10 ⟨ho, hb⟩ hf
  have hold := hB4
  replace hB2 := hB2.only ho (by omega)
  replace hB3 := hB3.only ho (by omega)
  replace hB6 := hB6.only ho (Blk.ne hB6 hold rfl)
  replace hW := Below.only hW ho hlo4
  clear hold
  have hB4 := hb
  clear hb ho
  refine l_as hf rfl rfl ?_; intro a hf
  refine wpList_nil ?_
  refine hK12 _ _ ?_; try clear hK12 K12
  refine wp_ret ?_
  refine x_retS ?_
  refine c_ret hf (res2 hf rfl (ResV.cellN (l := [.int .i64 0, .int .i64 0, .int .i64 0, .int .i64 0, .int .i64 0]) rfl tN_189 (hB4.at 0) rfl) rfl) ?_
  exact ⟨by rw [dMulI, hn]; rfl, hW⟩
 have hc11b := hc11
 have hy := or3_true hc11
 have hy3 := and3 hy
 have hx := dOk_exp hy3.1
 have hz := dOk_exp hy3.2.1
 refine wp_skip ?_
 refine hK7 _ _ ?_; try clear hK7 K7
 refine wp_seq_k ?_; intro K13 hK13
 refine wp_region_lit ?_
 refine l_e hf rfl (ev_loadN (l := [.int .i64 ((rIf1 (rMul x.num y.num) [x.num, y.num]).a), .int .i64 ((rIf1 (rMul x.num y.num) [x.num, y.num]).b), .int .i64 ((rIf1 (rMul x.num y.num) [x.num, y.num]).c), .int .i64 ((rIf1 (rMul x.num y.num) [x.num, y.num]).d)]) hf rfl tN_187 (hB6.at 0) rfl) ?_; intro a hf
 refine l_e hf rfl (ev_fieldB hf rfl fd_189_1 (m := 4) rfl) ?_; intro a hf
 refine l_e hf rfl (ev_load1 hf rfl t1_3 (hB2.at 4)) ?_; intro a hf
 refine l_e hf rfl (ev_fieldB hf rfl fd_189_1 (m := 4) rfl) ?_; intro a hf
 refine l_e hf rfl (ev_load1 hf rfl t1_3 (hB3.at 4)) ?_; intro a hf
 refine l_e hf rfl (ev_addx hf rfl rfl (by omega) (by omega)) ?_; intro a hf
 refine l_f hf rfl (ef_call (vs := [.agg #[.int .i64 ((rIf1 (rMul x.num y.num) [x.num, y.num]).a), .int .i64 ((rIf1 (rMul x.num y.num) [x.num, y.num]).b), .int .i64 ((rIf1 (rMul x.num y.num) [x.num, y.num]).c), .int .i64 ((rIf1 (rMul x.num y.num) [x.num, y.num]).d)], .int .i64 (x.exp + y.exp)]) hf rfl ff_228 (F228 _ (rIf1 (rMul x.num y.num) [x.num, y.num]) (x.exp + y.exp))) ?_; rintro a _ w11 ⟨rfl, hE⟩ hf
 replace hB2 := hB2.below hE
 replace hB3 := hB3.below hE
 replace hB4 := hB4.below hE
 replace hB6 := hB6.below hE
 replace hW := btr hW hE
 clear hE
 refine l_e hf rfl (ev_extract (vs := [.agg #[.int .i64 (((dOf (rIf1 (rMul x.num y.num) [x.num, y.num]) (x.exp + y.exp)).getD dZ).num.a), .int .i64 (((dOf (rIf1 (rMul x.num y.num) [x.num, y.num]) (x.exp + y.exp)).getD dZ).num.b), .int .i64 (((dOf (rIf1 (rMul x.num y.num) [x.num, y.num]) (x.exp + y.exp)).getD dZ).num.c), .int .i64 (((dOf (rIf1 (rMul x.num y.num) [x.num, y.num]) (x.exp + y.exp)).getD dZ).num.d), .int .i64 (((dOf (rIf1 (rMul x.num y.num) [x.num, y.num]) (x.exp + y.exp)).getD dZ).exp)], .bool ((dOf (rIf1 (rMul x.num y.num) [x.num, y.num]) (x.exp + y.exp)).isSome)]) hf rfl rfl) ?_; intro a hf
 refine l_e hf rfl (ev_extract (vs := [.agg #[.int .i64 (((dOf (rIf1 (rMul x.num y.num) [x.num, y.num]) (x.exp + y.exp)).getD dZ).num.a), .int .i64 (((dOf (rIf1 (rMul x.num y.num) [x.num, y.num]) (x.exp + y.exp)).getD dZ).num.b), .int .i64 (((dOf (rIf1 (rMul x.num y.num) [x.num, y.num]) (x.exp + y.exp)).getD dZ).num.c), .int .i64 (((dOf (rIf1 (rMul x.num y.num) [x.num, y.num]) (x.exp + y.exp)).getD dZ).num.d), .int .i64 (((dOf (rIf1 (rMul x.num y.num) [x.num, y.num]) (x.exp + y.exp)).getD dZ).exp)], .bool ((dOf (rIf1 (rMul x.num y.num) [x.num, y.num]) (x.exp + y.exp)).isSome)]) hf rfl rfl) ?_; intro a hf
 refine l_f0 hf (ef_store (vs := [.int .i64 (((dOf (rIf1 (rMul x.num y.num) [x.num, y.num]) (x.exp + y.exp)).getD dZ).num.a), .int .i64 (((dOf (rIf1 (rMul x.num y.num) [x.num, y.num]) (x.exp + y.exp)).getD dZ).num.b), .int .i64 (((dOf (rIf1 (rMul x.num y.num) [x.num, y.num]) (x.exp + y.exp)).getD dZ).num.c), .int .i64 (((dOf (rIf1 (rMul x.num y.num) [x.num, y.num]) (x.exp + y.exp)).getD dZ).num.d), .int .i64 (((dOf (rIf1 (rMul x.num y.num) [x.num, y.num]) (x.exp + y.exp)).getD dZ).exp)]) (l' := [.int .i64 (((dOf (rIf1 (rMul x.num y.num) [x.num, y.num]) (x.exp + y.exp)).getD dZ).num.a), .int .i64 (((dOf (rIf1 (rMul x.num y.num) [x.num, y.num]) (x.exp + y.exp)).getD dZ).num.b), .int .i64 (((dOf (rIf1 (rMul x.num y.num) [x.num, y.num]) (x.exp + y.exp)).getD dZ).num.c), .int .i64 (((dOf (rIf1 (rMul x.num y.num) [x.num, y.num]) (x.exp + y.exp)).getD dZ).num.d), .int .i64 (((dOf (rIf1 (rMul x.num y.num) [x.num, y.num]) (x.exp + y.exp)).getD dZ).exp)]) hf rfl rfl sz_189 hB4 rfl rfl rfl rfl rfl) ?_; rintro a _ w12 ⟨ho, hb⟩ hf
 have hold := hB4
 replace hB2 := hB2.only ho (by omega)
 replace hB3 := hB3.only ho (by omega)
 replace hB6 := hB6.only ho (Blk.ne hB6 hold rfl)
 replace hW := Below.only hW ho hlo4
 clear hold
 have hB4 := hb
 clear hb ho
 refine l_as hf rfl rfl ?_; intro a hf
 refine wpList_nil ?_
 refine hK13 _ _ ?_; try clear hK13 K13
 refine wp_ret ?_
 refine c_ret hf (res2 hf rfl (ResV.cellN (l := [.int .i64 (((dOf (rIf1 (rMul x.num y.num) [x.num, y.num]) (x.exp + y.exp)).getD dZ).num.a), .int .i64 (((dOf (rIf1 (rMul x.num y.num) [x.num, y.num]) (x.exp + y.exp)).getD dZ).num.b), .int .i64 (((dOf (rIf1 (rMul x.num y.num) [x.num, y.num]) (x.exp + y.exp)).getD dZ).num.c), .int .i64 (((dOf (rIf1 (rMul x.num y.num) [x.num, y.num]) (x.exp + y.exp)).getD dZ).num.d), .int .i64 (((dOf (rIf1 (rMul x.num y.num) [x.num, y.num]) (x.exp + y.exp)).getD dZ).exp)]) rfl tN_189 (hB4.at 0) rfl) rfl) ?_
 exact ⟨by rw [dMulI, if_pos hy], hW⟩
end Go.Proofs.YtfgnmflfiobkmaaGreat
set_option maxRecDepth 4000
namespace Go.Proofs.YtfgnmflfiobkmaaGreat
open Go.RowKit
theorem F190 (w0 : World) (n : Int) : Ret Tryz.prog 190 [.int .i64 n] w0 (fun v w => v = .bool (isDimB n) ∧ w0 = w) := by
 refine enter Tryz.func190 rfl 12 rfl rfl ?_
 intro a hf
 have hW : Below w0.heap.size w0 w0 := Below.refl _ _
 refine wp_seq_k ?_; intro K1 hK1
 refine wp_region_lit ?_
 refine l_as hf rfl rfl ?_; intro a hf
 refine wpList_nil ?_
 refine hK1 _ _ ?_; try clear hK1 K1
 refine wp_seq_k ?_; intro K2 hK2
 refine c_cut (fun a w => Fr a 12 [(2, .bool ((inR n 1 32) && ((bits .and .i64 n (wr (n - 1))) == 0)))] ∧ w0 = w) ?_ ?_
 ·refine wp_region_lit ?_
  refine l_mv hf rfl rfl ?_; intro a hf
  refine l_f hf rfl (ef_call (vs := [.int .i64 n, .int .i64 1, .int .i64 32]) hf rfl ff_91 (F91 _ n 1 32)) ?_; rintro a _ _ ⟨rfl, rfl⟩ hf
  refine l_mv hf rfl rfl ?_; intro a hf
  refine g_split hf (t := 5) rfl (fun hg3 => ?_) (fun hg3 => ?_)
  ·refine l_ev hf ⟨_, _, rfl, rfl, hg3⟩ rfl rfl (ev_move hf rfl) ?_; intro a hf
   refine l_ev hf ⟨_, _, rfl, rfl, hg3⟩ rfl rfl (ev_move hf rfl) ?_; intro a hf
   refine l_ev hf ⟨_, _, rfl, rfl, hg3⟩ rfl rfl (ev_sub hf rfl rfl) ?_; intro a hf
   refine l_ev hf ⟨_, _, rfl, rfl, hg3⟩ rfl rfl (ev_and hf rfl rfl) ?_; intro a hf
   refine l_ev hf ⟨_, _, rfl, rfl, hg3⟩ rfl rfl (ev_eql hf rfl rfl) ?_; intro a hf
   refine l_e hf rfl (ev_pickT hf rfl hg3 rfl) ?_; intro a hf
   refine l_as hf rfl rfl ?_; intro a hf
   refine wpList_nil ?_
   exact ⟨hf.sub ⟨look_bool rfl (by first | rfl | (simp only [hg3, Bool.true_and, Bool.false_and, Bool.true_or, Bool.false_or]; done) | simp [hg3]), trivial⟩, rfl⟩
  refine l_pass hf ⟨_, _, rfl, rfl, hg3⟩ rfl rfl ?_; intro a hf
  refine l_pass hf ⟨_, _, rfl, rfl, hg3⟩ rfl rfl ?_; intro a hf
  refine l_pass hf ⟨_, _, rfl, rfl, hg3⟩ rfl rfl ?_; intro a hf
  refine l_pass hf ⟨_, _, rfl, rfl, hg3⟩ rfl rfl ?_; intro a hf
  refine l_pass hf ⟨_, _, rfl, rfl, hg3⟩ rfl rfl ?_; intro a hf
  refine l_e hf rfl (ev_pickF hf rfl hg3 rfl) ?_; intro a hf
  refine l_as hf rfl rfl ?_; intro a hf
  refine wpList_nil ?_
  exact ⟨hf.sub ⟨look_bool rfl (by first | rfl | (simp only [hg3, Bool.true_and, Bool.false_and, Bool.true_or, Bool.false_or]; done) | simp [hg3]), trivial⟩, rfl⟩
 rintro a _ ⟨hf, rfl⟩
 refine hK2 _ _ ?_; try clear hK2 K2
 refine wp_ret ?_
 refine c_ret hf (res1 hf rfl rfl) ?_
 exact ⟨by simp [isDimB, *], rfl⟩
theorem F192 (w0 : World) (x : Dy) : Ret Tryz.prog 192 [.agg #[.int .i64 x.num.a, .int .i64 x.num.b, .int .i64 x.num.c, .int .i64 x.num.d, .int .i64 x.exp]] w0 (fun v w => v = .bool (!dOk x) ∧ Below w0.heap.size w0 w) := by
 refine enter Tryz.func192 rfl 6 rfl rfl ?_
 intro a hf
 have hW : Below w0.heap.size w0 w0 := Below.refl _ _
 refine wp_seq_k ?_; intro K1 hK1
 refine wp_region_lit ?_
 refine l_f hf rfl (ef_box (zs := [.int .i64 x.num.a, .int .i64 x.num.b, .int .i64 x.num.c, .int .i64 x.num.d, .int .i64 x.exp]) hf rfl rfl) ?_; rintro a _ w1 ⟨b2, rfl, hl2, hE, hB2⟩ hf
 have hlo2 := Nat.le_trans hW.size hl2
 replace hW := btr hW hE
 clear hE
 refine l_as hf rfl rfl ?_; intro a hf
 refine wpList_nil ?_
 refine hK1 _ _ ?_; try clear hK1 K1
 refine wp_seq_k ?_; intro K3 hK3
 refine wp_region_lit ?_
 refine l_e hf rfl (ev_loadN (l := [.int .i64 x.num.a, .int .i64 x.num.b, .int .i64 x.num.c, .int .i64 x.num.d, .int .i64 x.exp]) hf rfl tN_189 (hB2.at 0) rfl) ?_; intro a hf
 refine l_f hf rfl (ef_call (vs := [.agg #[.int .i64 x.num.a, .int .i64 x.num.b, .int .i64 x.num.c, .int .i64 x.num.d, .int .i64 x.exp]]) hf rfl ff_193 (F193 _ x)) ?_; rintro a _ w2 ⟨rfl, hE⟩ hf
 replace hB2 := hB2.below hE
 replace hW := btr hW hE
 clear hE
 refine l_e hf rfl (ev_not hf rfl) ?_; intro a hf
 refine l_as hf rfl rfl ?_; intro a hf
 refine wpList_nil ?_
 refine hK3 _ _ ?_; try clear hK3 K3
 refine wp_ret ?_
 refine c_ret hf (res1 hf rfl rfl) ?_
 exact ⟨rfl, hW⟩
theorem F224 (w0 : World) (Al : Option Addr) (cl : Nat) (l : List Dy) (hr_l : Rd w0 w0.heap.size 189 encD Al l) (kq : FuncId) (pq : List Value) (Fq : FuncF Tryz.prog kq) (q : Dy → Bool) (hq : ∀ x w, Below w0.heap.size w0 w → Ret Tryz.prog kq ([dV x] ++ pq) w (fun v w' => v = .bool (q x) ∧ Below w.heap.size w w')) (hln : l.length ≤ 2305843009213693951) : Ret Tryz.prog 224 [.slice Al l.length cl, .func (.func kq) #[] pq.toArray] w0 (fun v w => ∃ i : Int, v = .int .i64 i ∧ decide (0 ≤ i) = l.any q ∧ Below w0.heap.size w0 w) := by
 refine enter Tryz.func224 rfl 19 rfl rfl ?_
 intro a hf
 have hW : Below w0.heap.size w0 w0 := Below.refl _ _
 refine wp_seq_k ?_; intro K2 hK2
 refine wp_region_lit ?_
 refine l_as hf rfl rfl ?_; intro a hf
 refine wpList_nil ?_
 refine hK2 _ _ ?_; try clear hK2 K2
 refine wp_seq_k ?_; intro K3 hK3
 refine wp_seq_k ?_; intro K4 hK4
 refine wp_region_lit ?_
 refine l_mv hf rfl rfl ?_; intro a hf
 refine l_e hf rfl (ev_len hf rfl sl_139) ?_; intro a hf
 refine l_mv hf rfl rfl ?_; intro a hf
 refine wpList_nil ?_
 refine hK4 _ _ ?_; try clear hK4 K4
 refine wp_block ?_
 refine c_loop (σ := Nat) (fun (k : Nat) (a : Act) (w : World) => Fr a 19 [(0, .slice Al l.length cl), (1, .func (.func kq) #[] pq.toArray), (7, .int .i64 (l.length : Int)), (8, .int .i64 (k : Int))] ∧ (k ≤ l.length) ∧ ((l.take k).all (fun x => !q x) = true) ∧ Below w0.heap.size w0 w) (fun (k : Nat) => l.length + 1 - k) 0 ?_ ?_
 · exact ⟨hf.sub ⟨rfl, rfl, rfl, rfl, trivial⟩, (Nat.zero_le _), (by simp), hW⟩
 rintro k a w1 ⟨hf, hk, hpre, hW⟩
 refine wp_seq_k ?_; intro K5 hK5
 refine wp_region_lit ?_
 refine l_e hf rfl (ev_lss hf rfl rfl) ?_; intro a hf
 refine wpList_nil ?_
 refine hK5 _ _ ?_; try clear hK5 K5
 refine wp_seq_k ?_; intro K6 hK6
 refine c_if hf rfl (fun hc7 => ?_) (fun hc7 => ?_)
 ·have hc7b := hc7
  have hc7 := of_decide_eq_true hc7
  obtain ⟨u8, hu8⟩ := getElem_ex (l := l) (k := k) (by omega)
  refine wp_skip ?_
  refine hK6 _ _ ?_; try clear hK6 K6
  refine wp_seq_k ?_; intro K9 hK9
  refine wp_block ?_
  refine wp_seq_k ?_; intro K10 hK10
  refine wp_region_lit ?_
  refine l_mv hf rfl rfl ?_; intro a hf
  refine l_as hf rfl rfl ?_; intro a hf
  refine wpList_nil ?_
  refine hK10 _ _ ?_; try clear hK10 K10
  refine wp_seq_k ?_; intro K11 hK11
  refine wp_region_lit ?_
  refine l_mv hf rfl rfl ?_; intro a hf
  refine l_mv hf rfl rfl ?_; intro a hf
  refine l_mv hf rfl rfl ?_; intro a hf
  refine l_index (k := k) (u := u8) (enc := encD) (l := l) hf trivial rfl rfl rfl sl_139 sz_189 encD_len (hr_l.below' hW) hu8 rfl ?_; intro a p13 hat12 hf
  refine l_e hf rfl (ev_loadN (l := [.int .i64 u8.num.a, .int .i64 u8.num.b, .int .i64 u8.num.c, .int .i64 u8.num.d, .int .i64 u8.exp]) hf rfl tN_189 hat12 rfl) ?_; intro a hf
  refine l_f hf rfl (ef_callv (cs := pq) (vs := [.agg #[.int .i64 u8.num.a, .int .i64 u8.num.b, .int .i64 u8.num.c, .int .i64 u8.num.d, .int .i64 u8.exp]]) hf rfl rfl Fq (hq u8 _ hW)) ?_; rintro a _ w2 ⟨rfl, hE⟩ hf
  replace hW := btr hW hE
  clear hE
  refine wpList_nil ?_
  refine hK11 _ _ ?_; try clear hK11 K11
  refine c_if hf rfl (fun hc14 => ?_) (fun hc14 => ?_)
  ·have hc14b := hc14
   have hb2 : l.any q = true := any_true hu8 hc14
   refine wp_seq_k ?_; intro K15 hK15
   refine wp_region_lit ?_
   refine l_mv hf rfl rfl ?_; intro a hf
   refine l_as hf rfl rfl ?_; intro a hf
   refine wpList_nil ?_
   refine hK15 _ _ ?_; try clear hK15 K15
   refine wp_ret ?_
   refine x_retB ?_
   refine x_retS ?_
   refine x_retS ?_
   refine x_retB ?_
   refine x_retS ?_
   refine c_ret hf (res1 hf rfl rfl) ?_
   exact ⟨_, rfl, by rw [hb2]; simp, hW⟩
  have hc14b := hc14
  have hok : (!q u8) = true := by revert hc14; cases q u8 <;> simp
  refine wp_skip ?_
  refine x_norm ?_
  refine hK9 _ _ ?_; try clear hK9 K9
  refine wp_region_lit ?_
  refine l_e hf rfl (ev_addx hf rfl rfl (by omega) (by omega)) ?_; intro a hf
  refine l_mv hf rfl rfl ?_; intro a hf
  refine wpList_nil ?_
  refine x_thenN ?_
  exact ⟨k + 1, ⟨hf.sub ⟨rfl, rfl, rfl, rfl, trivial⟩, (by omega), (take_all hpre hu8 hok), hW⟩, (by omega)⟩
 have hc7b := hc7
 have hc7 := of_decide_eq_false hc7
 refine wp_exit ?_
 refine x_exS ?_
 refine x_exS ?_
 refine x_exit ?_
 refine hK3 _ _ ?_; try clear hK3 K3
 refine wp_seq_k ?_; intro K16 hK16
 refine wp_region_lit ?_
 refine l_as hf rfl rfl ?_; intro a hf
 refine wpList_nil ?_
 refine hK16 _ _ ?_; try clear hK16 K16
 refine wp_ret ?_
 refine c_ret hf (res1 hf rfl rfl) ?_
 have hb2 : l.any q = false := any_false (take_full hpre (by omega))
 exact ⟨_, rfl, by rw [hb2]; rfl, hW⟩
theorem F191 (w0 : World) (Al : Option Addr) (cl : Nat) (l : List Dy) (hr_l : Rd w0 w0.heap.size 189 encD Al l) (kq : FuncId) (pq : List Value) (Fq : FuncF Tryz.prog kq) (q : Dy → Bool) (hq : ∀ x w, Below w0.heap.size w0 w → Ret Tryz.prog kq ([dV x] ++ pq) w (fun v w' => v = .bool (q x) ∧ Below w.heap.size w w')) (hln : l.length ≤ 2305843009213693951) : Ret Tryz.prog 191 [.slice Al l.length cl, .func (.func kq) #[] pq.toArray] w0 (fun v w => v = .bool (l.any q) ∧ Below w0.heap.size w0 w) := by
 refine enter Tryz.func191 rfl 9 rfl rfl ?_
 intro a hf
 have hW : Below w0.heap.size w0 w0 := Below.refl _ _
 refine wp_seq_k ?_; intro K2 hK2
 refine wp_region_lit ?_
 refine l_as hf rfl rfl ?_; intro a hf
 refine wpList_nil ?_
 refine hK2 _ _ ?_; try clear hK2 K2
 refine wp_seq_k ?_; intro K3 hK3
 refine wp_region_lit ?_
 refine l_mv hf rfl rfl ?_; intro a hf
 refine l_mv hf rfl rfl ?_; intro a hf
 refine l_f hf rfl (ef_call (vs := [.slice Al l.length cl, .func (.func kq) #[] pq.toArray]) hf rfl ff_224 (F224 _ Al cl l (hr_l.below' hW).top kq pq Fq q (fun x w' hE' => hq x w' (hW.trans (hE'.mono hW.size))) hln)) ?_; rintro a _ w1 ⟨ix, rfl, hix, hE⟩ hf
 replace hW := btr hW hE
 clear hE
 refine l_e hf rfl (ev_geq hf rfl rfl) ?_; intro a hf
 refine l_as hf rfl rfl ?_; intro a hf
 refine wpList_nil ?_
 refine hK3 _ _ ?_; try clear hK3 K3
 refine wp_ret ?_
 refine c_ret hf (res1 hf rfl rfl) ?_
 exact ⟨by rw [← hix], hW⟩
theorem F138 (w0 : World) (m : Mx) (Am : Option Addr) (cm : Nat) (hr_m : Rd w0 w0.heap.size 189 encD Am m.cells) (hln : m.cells.length ≤ 2305843009213693951) : Ret Tryz.prog 138 [.agg #[.int .i64 m.rows, .int .i64 m.cols, .slice Am m.cells.length cm]] w0 (fun v w => v = .bool (mOk m) ∧ Below w0.heap.size w0 w) := by
 refine enter Tryz.func138 rfl 28 rfl rfl ?_
 intro a hf
 have hW : Below w0.heap.size w0 w0 := Below.refl _ _
 refine wp_seq_k ?_; intro K2 hK2
 refine wp_region_lit ?_
 refine l_f hf rfl (ef_box (zs := [.int .i64 m.rows, .int .i64 m.cols, .slice Am m.cells.length cm]) hf rfl rfl) ?_; rintro a _ w1 ⟨b3, rfl, hl3, hE, hB3⟩ hf
 have hlo3 := Nat.le_trans hW.size hl3
 replace hW := btr hW hE
 clear hE
 refine l_as hf rfl rfl ?_; intro a hf
 refine wpList_nil ?_
 refine hK2 _ _ ?_; try clear hK2 K2
 refine wp_seq_k ?_; intro K4 hK4
 refine c_cut (fun a w => Fr a 28 [(2, .bool ((((isDimB m.rows) && (isDimB m.cols)) && ((m.cells.length : Int) == (wr (m.rows * m.cols)))) && (!(m.cells.any (fun x => !dOk x)))))] ∧ Below w1.heap.size w1 w) ?_ ?_
 ·have hEc : Below w1.heap.size w1 w1 := Below.refl _ _
  refine wp_region_lit ?_
  refine l_e hf rfl (ev_fieldB hf rfl fd_141_0 (m := 0) rfl) ?_; intro a hf
  refine l_e hf rfl (ev_load1 hf rfl t1_3 (hB3.at 0)) ?_; intro a hf
  refine l_f hf rfl (ef_call (vs := [.int .i64 m.rows]) hf rfl ff_190 (F190 _ m.rows)) ?_; rintro a _ _ ⟨rfl, rfl⟩ hf
  refine l_mv hf rfl rfl ?_; intro a hf
  refine g_split hf (t := 6) rfl (fun hg5 => ?_) (fun hg5 => ?_)
  ·refine l_ev hf ⟨_, _, rfl, rfl, hg5⟩ rfl rfl (ev_fieldB hf rfl fd_141_1 (m := 1) rfl) ?_; intro a hf
   refine l_ev hf ⟨_, _, rfl, rfl, hg5⟩ rfl rfl (ev_load1 hf rfl t1_3 (hB3.at 1)) ?_; intro a hf
   refine l_eff hf ⟨_, _, rfl, rfl, hg5⟩ rfl rfl (ef_call (vs := [.int .i64 m.cols]) hf rfl ff_190 (F190 _ m.cols)) ?_; rintro a _ _ ⟨rfl, rfl⟩ hf
   refine l_e hf rfl (ev_pickT hf rfl hg5 rfl) ?_; intro a hf
   refine l_mv hf rfl rfl ?_; intro a hf
   refine g_split hf (t := 11) rfl (fun hg6 => ?_) (fun hg6 => ?_)
   ·refine l_ev hf ⟨_, _, rfl, rfl, hg6⟩ rfl rfl (ev_fieldB hf rfl fd_141_2 (m := 2) rfl) ?_; intro a hf
    refine l_ev hf ⟨_, _, rfl, rfl, hg6⟩ rfl rfl (ev_load1 hf rfl t1_139 (hB3.at 2)) ?_; intro a hf
    refine l_ev hf ⟨_, _, rfl, rfl, hg6⟩ rfl rfl (ev_len hf rfl sl_139) ?_; intro a hf
    refine l_ev hf ⟨_, _, rfl, rfl, hg6⟩ rfl rfl (ev_fieldB hf rfl fd_141_0 (m := 0) rfl) ?_; intro a hf
    refine l_ev hf ⟨_, _, rfl, rfl, hg6⟩ rfl rfl (ev_load1 hf rfl t1_3 (hB3.at 0)) ?_; intro a hf
    refine l_ev hf ⟨_, _, rfl, rfl, hg6⟩ rfl rfl (ev_fieldB hf rfl fd_141_1 (m := 1) rfl) ?_; intro a hf
    refine l_ev hf ⟨_, _, rfl, rfl, hg6⟩ rfl rfl (ev_load1 hf rfl t1_3 (hB3.at 1)) ?_; intro a hf
    refine l_ev hf ⟨_, _, rfl, rfl, hg6⟩ rfl rfl (ev_mul hf rfl rfl) ?_; intro a hf
    refine l_ev hf ⟨_, _, rfl, rfl, hg6⟩ rfl rfl (ev_eql hf rfl rfl) ?_; intro a hf
    refine l_e hf rfl (ev_pickT hf rfl hg6 rfl) ?_; intro a hf
    refine l_mv hf rfl rfl ?_; intro a hf
    refine g_split hf (t := 22) rfl (fun hg7 => ?_) (fun hg7 => ?_)
    ·refine l_ev hf ⟨_, _, rfl, rfl, hg7⟩ rfl rfl (ev_fieldB hf rfl fd_141_2 (m := 2) rfl) ?_; intro a hf
     refine l_ev hf ⟨_, _, rfl, rfl, hg7⟩ rfl rfl (ev_load1 hf rfl t1_139 (hB3.at 2)) ?_; intro a hf
     refine l_eff hf ⟨_, _, rfl, rfl, hg7⟩ rfl rfl (ef_call (vs := [.slice Am m.cells.length cm, .func (.func 192) #[] #[]]) hf rfl ff_191 (F191 _ Am cm m.cells (hr_m.below' hW).top 192 [] ff_192 (fun x => !dOk x) (fun x w' hE' => F192 w' x) hln)) ?_; rintro a _ w2 ⟨rfl, hE⟩ hf
     replace hB3 := hB3.below hE
     replace hW := btr hW hE
     replace hEc := btr hEc hE
     clear hE
     refine l_ev hf ⟨_, _, rfl, rfl, hg7⟩ rfl rfl (ev_not hf rfl) ?_; intro a hf
     refine l_e hf rfl (ev_pickT hf rfl hg7 rfl) ?_; intro a hf
     refine l_as hf rfl rfl ?_; intro a hf
     refine wpList_nil ?_
     have hEE : Below w1.heap.size w1 w2 := hEc
     exact ⟨hf.sub ⟨look_bool rfl (by first | rfl | (simp only [hg5, hg6, hg7, Bool.true_and, Bool.false_and, Bool.true_or, Bool.false_or]; done) | simp [hg5, hg6, hg7]), trivial⟩, hEE⟩
    refine l_pass hf ⟨_, _, rfl, rfl, hg7⟩ rfl rfl ?_; intro a hf
    refine l_pass hf ⟨_, _, rfl, rfl, hg7⟩ rfl rfl ?_; intro a hf
    refine l_pass hf ⟨_, _, rfl, rfl, hg7⟩ rfl rfl ?_; intro a hf
    refine l_pass hf ⟨_, _, rfl, rfl, hg7⟩ rfl rfl ?_; intro a hf
    refine l_e hf rfl (ev_pickF hf rfl hg7 rfl) ?_; intro a hf
    refine l_as hf rfl rfl ?_; intro a hf
    refine wpList_nil ?_
    have hEE : Below w1.heap.size w1 w1 := hEc
    exact ⟨hf.sub ⟨look_bool rfl (by first | rfl | (simp only [hg5, hg6, hg7, Bool.true_and, Bool.false_and, Bool.true_or, Bool.false_or]; done) | simp [hg5, hg6, hg7]), trivial⟩, hEE⟩
   refine l_pass hf ⟨_, _, rfl, rfl, hg6⟩ rfl rfl ?_; intro a hf
   refine l_pass hf ⟨_, _, rfl, rfl, hg6⟩ rfl rfl ?_; intro a hf
   refine l_pass hf ⟨_, _, rfl, rfl, hg6⟩ rfl rfl ?_; intro a hf
   refine l_pass hf ⟨_, _, rfl, rfl, hg6⟩ rfl rfl ?_; intro a hf
   refine l_pass hf ⟨_, _, rfl, rfl, hg6⟩ rfl rfl ?_; intro a hf
   refine l_pass hf ⟨_, _, rfl, rfl, hg6⟩ rfl rfl ?_; intro a hf
   refine l_pass hf ⟨_, _, rfl, rfl, hg6⟩ rfl rfl ?_; intro a hf
   refine l_pass hf ⟨_, _, rfl, rfl, hg6⟩ rfl rfl ?_; intro a hf
   refine l_pass hf ⟨_, _, rfl, rfl, hg6⟩ rfl rfl ?_; intro a hf
   refine l_e hf rfl (ev_pickF hf rfl hg6 rfl) ?_; intro a hf
   refine l_mv hf rfl rfl ?_; intro a hf
   refine l_pass hf ⟨_, _, rfl, rfl, rfl⟩ rfl rfl ?_; intro a hf
   refine l_pass hf ⟨_, _, rfl, rfl, rfl⟩ rfl rfl ?_; intro a hf
   refine l_pass hf ⟨_, _, rfl, rfl, rfl⟩ rfl rfl ?_; intro a hf
   refine l_pass hf ⟨_, _, rfl, rfl, rfl⟩ rfl rfl ?_; intro a hf
   refine l_e hf rfl (ev_pickF hf rfl rfl rfl) ?_; intro a hf
   refine l_as hf rfl rfl ?_; intro a hf
   refine wpList_nil ?_
   have hEE : Below w1.heap.size w1 w1 := hEc
   exact ⟨hf.sub ⟨look_bool rfl (by first | rfl | (simp only [hg5, hg6, Bool.true_and, Bool.false_and, Bool.true_or, Bool.false_or]; done) | simp [hg5, hg6]), trivial⟩, hEE⟩
  refine l_pass hf ⟨_, _, rfl, rfl, hg5⟩ rfl rfl ?_; intro a hf
  refine l_pass hf ⟨_, _, rfl, rfl, hg5⟩ rfl rfl ?_; intro a hf
  refine l_pass hf ⟨_, _, rfl, rfl, hg5⟩ rfl rfl ?_; intro a hf
  refine l_e hf rfl (ev_pickF hf rfl hg5 rfl) ?_; intro a hf
  refine l_mv hf rfl rfl ?_; intro a hf
  refine l_pass hf ⟨_, _, rfl, rfl, rfl⟩ rfl rfl ?_; intro a hf
  refine l_pass hf ⟨_, _, rfl, rfl, rfl⟩ rfl rfl ?_; intro a hf
  refine l_pass hf ⟨_, _, rfl, rfl, rfl⟩ rfl rfl ?_; intro a hf
  refine l_pass hf ⟨_, _, rfl, rfl, rfl⟩ rfl rfl ?_; intro a hf
  refine l_pass hf ⟨_, _, rfl, rfl, rfl⟩ rfl rfl ?_; intro a hf
  refine l_pass hf ⟨_, _, rfl, rfl, rfl⟩ rfl rfl ?_; intro a hf
  refine l_pass hf ⟨_, _, rfl, rfl, rfl⟩ rfl rfl ?_; intro a hf
  refine l_pass hf ⟨_, _, rfl, rfl, rfl⟩ rfl rfl ?_; intro a hf
  refine l_pass hf ⟨_, _, rfl, rfl, rfl⟩ rfl rfl ?_; intro a hf
  refine l_e hf rfl (ev_pickF hf rfl rfl rfl) ?_; intro a hf
  refine l_mv hf rfl rfl ?_; intro a hf
  refine l_pass hf ⟨_, _, rfl, rfl, rfl⟩ rfl rfl ?_; intro a hf
  refine l_pass hf ⟨_, _, rfl, rfl, rfl⟩ rfl rfl ?_; intro a hf
  refine l_pass hf ⟨_, _, rfl, rfl, rfl⟩ rfl rfl ?_; intro a hf
  refine l_pass hf ⟨_, _, rfl, rfl, rfl⟩ rfl rfl ?_; intro a hf
  refine l_e hf rfl (ev_pickF hf rfl rfl rfl) ?_; intro a hf
  refine l_as hf rfl rfl ?_; intro a hf
  refine wpList_nil ?_
  have hEE : Below w1.heap.size w1 w1 := hEc
  exact ⟨hf.sub ⟨look_bool rfl (by first | rfl | (simp only [hg5, Bool.true_and, Bool.false_and, Bool.true_or, Bool.false_or]; done) | simp [hg5]), trivial⟩, hEE⟩
 rintro a w3 ⟨hf, hE⟩
 replace hB3 := hB3.below hE
 replace hW := btr hW hE
 clear hE
 refine hK4 _ _ ?_; try clear hK4 K4
 refine wp_ret ?_
 refine c_ret hf (res1 hf rfl rfl) ?_
 exact ⟨by simp [mOk, *], hW⟩
end Go.Proofs.YtfgnmflfiobkmaaGreat
set_option maxRecDepth 4000
namespace Go.Proofs.YtfgnmflfiobkmaaGreat
open Go.RowKit
theorem F196 (w0 : World) (m : Mx) (Am : Option Addr) (cm : Nat) (hm : Rd w0 w0.heap.size 189 encD Am m.cells) (i j : Nat) (hmo : mOk m = true) (hi : (i : Int) < m.rows) (hj : (j : Int) < m.cols) : Ret Tryz.prog 196 [.agg #[.int .i64 m.rows, .int .i64 m.cols, .slice Am m.cells.length cm], .int .i64 (i : Int), .int .i64 (j : Int)] w0 (fun v w => v = dV (m.at i j) ∧ Below w0.heap.size w0 w) := by
 have hml := mOk_len hmo
 have hlt : i * m.cols.toNat + j < m.cells.length := by rw [hml.2.2]; exact grid_lt (by omega) (by omega)
 have hub : m.cells.length ≤ 1024 := by rw [hml.2.2]; exact Nat.le_trans (Nat.mul_le_mul (show m.rows.toNat ≤ 32 by omega) (show m.cols.toNat ≤ 32 by omega)) (by decide)
 have hat0 := Mx.at_get hlt
 have hcc : m.cols = (m.cols.toNat : Int) := by omega
 suffices hgoal : Ret Tryz.prog 196 [.agg #[.int .i64 m.rows, .int .i64 (m.cols.toNat : Int), .slice Am m.cells.length cm], .int .i64 (i : Int), .int .i64 (j : Int)] w0 (fun v w => v = dV (m.at i j) ∧ Below w0.heap.size w0 w) by rw [← hcc] at hgoal; exact hgoal
 refine enter Tryz.func196 rfl 17 rfl rfl ?_
 intro a hf
 have hW : Below w0.heap.size w0 w0 := Below.refl _ _
 refine wp_seq_k ?_; intro K2 hK2
 refine wp_region_lit ?_
 refine l_f hf rfl (ef_box (zs := [.int .i64 m.rows, .int .i64 (m.cols.toNat : Int), .slice Am m.cells.length cm]) hf rfl rfl) ?_; rintro a _ w1 ⟨b3, rfl, hl3, hE, hB3⟩ hf
 have hlo3 := Nat.le_trans hW.size hl3
 replace hW := btr hW hE
 clear hE
 refine l_f hf rfl (ef_alloc (zs := [.int .i64 0, .int .i64 0, .int .i64 0, .int .i64 0, .int .i64 0]) z_189 rfl) ?_; rintro a _ w2 ⟨b4, rfl, hl4, hE, hB4⟩ hf
 have hlo4 := Nat.le_trans hW.size hl4
 have haw1_4 := (hm.below' hW).away hl4
 replace hB3 := hB3.below hE
 replace hW := btr hW hE
 clear hE
 refine wpList_nil ?_
 refine hK2 _ _ ?_; try clear hK2 K2
 refine wp_seq_k ?_; intro K5 hK5
 refine wp_region_lit ?_
 refine l_e hf rfl (ev_fieldB hf rfl fd_141_2 (m := 2) rfl) ?_; intro a hf
 refine l_e hf rfl (ev_load1 hf rfl t1_139 (hB3.at 2)) ?_; intro a hf
 refine l_mv hf rfl rfl ?_; intro a hf
 refine l_e hf rfl (ev_fieldB hf rfl fd_141_1 (m := 1) rfl) ?_; intro a hf
 refine l_e hf rfl (ev_load1 hf rfl t1_3 (hB3.at 1)) ?_; intro a hf
 refine l_e hf rfl (ev_mulN (m := i) (k := m.cols.toNat) hf rfl rfl (by omega)) ?_; intro a hf
 refine l_mv hf rfl rfl ?_; intro a hf
 refine l_e hf rfl (ev_addx hf rfl rfl (by omega) (by omega)) ?_; intro a hf
 refine l_index (k := (i * m.cols.toNat + j)) (u := (m.at i j)) (enc := encD) (l := m.cells) hf trivial rfl rfl rfl sl_139 sz_189 encD_len (hm.below' hW) hat0 (by omega) ?_; intro a p7 hat6 hf
 refine l_e hf rfl (ev_loadN (l := [.int .i64 ((m.at i j).num.a), .int .i64 ((m.at i j).num.b), .int .i64 ((m.at i j).num.c), .int .i64 ((m.at i j).num.d), .int .i64 ((m.at i j).exp)]) hf rfl tN_189 hat6 rfl) ?_; intro a hf
 refine l_f0 hf (ef_store (vs := [.int .i64 ((m.at i j).num.a), .int .i64 ((m.at i j).num.b), .int .i64 ((m.at i j).num.c), .int .i64 ((m.at i j).num.d), .int .i64 ((m.at i j).exp)]) (l' := [.int .i64 ((m.at i j).num.a), .int .i64 ((m.at i j).num.b), .int .i64 ((m.at i j).num.c), .int .i64 ((m.at i j).num.d), .int .i64 ((m.at i j).exp)]) hf rfl rfl sz_189 hB4 rfl rfl rfl rfl rfl) ?_; rintro a _ w3 ⟨ho, hb⟩ hf
 have hold := hB4
 replace hB3 := hB3.only ho (Blk.ne hB3 hold rfl)
 replace hW := Below.only hW ho hlo4
 clear hold
 have hB4 := hb
 clear hb ho
 refine wpList_nil ?_
 refine hK5 _ _ ?_; try clear hK5 K5
 refine wp_ret ?_
 refine c_ret hf (res1 hf rfl (ResV.cellN (l := [.int .i64 ((m.at i j).num.a), .int .i64 ((m.at i j).num.b), .int .i64 ((m.at i j).num.c), .int .i64 ((m.at i j).num.d), .int .i64 ((m.at i j).exp)]) rfl tN_189 (hB4.at 0) rfl)) ?_
 exact ⟨rfl, hW⟩
theorem F185 (w0 : World) (R C : Int) (k : FuncId) (caps : List Value) (hF : FuncF Tryz.prog k) (f : Nat → Nat → Option Dy) (hcell : ∀ (i j : Nat) w, (i : Int) < R → (j : Int) < C → Below w0.heap.size w0 w → Ret Tryz.prog k ([.int .i64 (i : Int), .int .i64 (j : Int)] ++ caps) w (fun v w' => v = .tuple #[dV ((f i j).getD dZ), .bool (f i j).isSome] ∧ Below w.heap.size w w')) : Ret Tryz.prog 185 [.int .i64 R, .int .i64 C, .func (.func k) #[] caps.toArray] w0 (fun v w => ∃ A c, v = .tuple #[mV A c ((matOf R C f).getD mZ), .bool (matOf R C f).isSome] ∧ Own w w0.heap.size 189 5 encD A c ((matOf R C f).getD mZ).cells ∧ Below w0.heap.size w0 w) := by
 refine enter Tryz.func185 rfl 52 rfl rfl ?_
 intro a hf
 have hW : Below w0.heap.size w0 w0 := Below.refl _ _
 refine wp_seq_k ?_; intro K1 hK1
 refine wp_region_lit ?_
 refine l_f hf rfl (ef_alloc (zs := [.int .i64 0, .int .i64 0, .slice none 0 0]) z_141 rfl) ?_; rintro a _ w1 ⟨b3, rfl, hl3, hE, hB3⟩ hf
 have hlo3 := Nat.le_trans hW.size hl3
 replace hW := btr hW hE
 clear hE
 refine l_as hf rfl rfl ?_; intro a hf
 refine wpList_nil ?_
 refine hK1 _ _ ?_; try clear hK1 K1
 refine wp_seq_k ?_; intro K4 hK4
 refine wp_region_lit ?_
 refine l_mv hf rfl rfl ?_; intro a hf
 refine l_mv hf rfl rfl ?_; intro a hf
 refine l_e hf rfl (ev_build (ps := [(0, .int .i64 R), (1, .int .i64 C)]) (cs := [.int .i64 R, .int .i64 C, .slice none 0 0]) hf rfl (fun _ => by first | rfl | kernel_rfl)) ?_; intro a hf
 refine l_f hf rfl (ef_alloc (zs := [.int .i64 0, .int .i64 0, .slice none 0 0]) z_141 rfl) ?_; rintro a _ w2 ⟨b7, rfl, hl7, hE, hB7⟩ hf
 have hne3_7 : b3 ≠ b7 := by have := hB3.lt; omega
 have hlo7 := Nat.le_trans hW.size hl7
 replace hB3 := hB3.below hE
 replace hW := btr hW hE
 clear hE
 refine l_f0 hf (ef_store (vs := [.int .i64 R, .int .i64 C, .slice none 0 0]) (l' := [.int .i64 R, .int .i64 C, .slice none 0 0]) hf rfl rfl sz_141 hB7 rfl rfl rfl rfl rfl) ?_; rintro a _ w3 ⟨ho, hb⟩ hf
 have hold := hB7
 replace hB3 := hB3.only ho (by omega)
 replace hW := Below.only hW ho hlo7
 clear hold
 have hB7 := hb
 clear hb ho
 refine wpList_nil ?_
 refine hK4 _ _ ?_; try clear hK4 K4
 refine wp_seq_k ?_; intro K8 hK8
 refine wp_seq_k ?_; intro K9 hK9
 refine c_cut (fun a w => Fr a 52 [(0, .int .i64 R), (1, .int .i64 C), (2, .func (.func k) #[] caps.toArray), (6, .pointer (some ⟨b3, 0, none⟩)), (8, .pointer (some ⟨b7, 0, none⟩)), (23, .bool ((!(isDimB R)) || (!(isDimB C))))] ∧ w3 = w) ?_ ?_
 ·refine wp_region_lit ?_
  refine l_mv hf rfl rfl ?_; intro a hf
  refine l_f hf rfl (ef_call (vs := [.int .i64 R]) hf rfl ff_190 (F190 _ R)) ?_; rintro a _ _ ⟨rfl, rfl⟩ hf
  refine l_e hf rfl (ev_not hf rfl) ?_; intro a hf
  refine l_mv hf rfl rfl ?_; intro a hf
  refine g_split hf (t := 19) rfl (fun hg10 => ?_) (fun hg10 => ?_)
  ·refine l_pass hf ⟨_, _, rfl, rfl, hg10⟩ rfl rfl ?_; intro a hf
   refine l_pass hf ⟨_, _, rfl, rfl, hg10⟩ rfl rfl ?_; intro a hf
   refine l_pass hf ⟨_, _, rfl, rfl, hg10⟩ rfl rfl ?_; intro a hf
   refine l_e hf rfl (ev_pickT hf rfl hg10 rfl) ?_; intro a hf
   refine wpList_nil ?_
   exact ⟨hf.sub ⟨rfl, rfl, rfl, rfl, rfl, look_bool rfl (by first | rfl | (simp only [hg10, Bool.true_and, Bool.false_and, Bool.true_or, Bool.false_or]; done) | simp [hg10]), trivial⟩, rfl⟩
  refine l_ev hf ⟨_, _, rfl, rfl, hg10⟩ rfl rfl (ev_move hf rfl) ?_; intro a hf
  refine l_eff hf ⟨_, _, rfl, rfl, hg10⟩ rfl rfl (ef_call (vs := [.int .i64 C]) hf rfl ff_190 (F190 _ C)) ?_; rintro a _ _ ⟨rfl, rfl⟩ hf
  refine l_ev hf ⟨_, _, rfl, rfl, hg10⟩ rfl rfl (ev_not hf rfl) ?_; intro a hf
  refine l_e hf rfl (ev_pickF hf rfl hg10 rfl) ?_; intro a hf
  refine wpList_nil ?_
  exact ⟨hf.sub ⟨rfl, rfl, rfl, rfl, rfl, look_bool rfl (by first | rfl | (simp only [hg10, Bool.true_and, Bool.false_and, Bool.true_or, Bool.false_or]; done) | simp [hg10]), trivial⟩, rfl⟩
 rintro a _ ⟨hf, rfl⟩
 refine hK9 _ _ ?_; try clear hK9 K9
 refine c_if hf rfl (fun hc11 => ?_) (fun hc11 => ?_)
 ·have hc11b := hc11
  have hn := or2_false hc11
  refine wp_seq_k ?_; intro K12 hK12
  refine wp_region_lit ?_
  refine l_e hf rfl (ev_build (ps := []) (cs := [.int .i64 0, .int .i64 0, .slice none 0 0]) hf rfl (fun _ => by first | rfl | kernel_rfl)) ?_; intro a hf
  refine l_f0 hf (ef_store (vs := [.int .i64 0, .int .i64 0, .slice none 0 0]) (l' := [.int .i64 0, .int .i64 0, .slice none 0 0]) hf rfl rfl sz_141 hB3 rfl rfl rfl rfl rfl) ?_; rintro a _ w4 ⟨ho, hb⟩ hf
  have hold := hB3
  replace hB7 := hB7.only ho (by omega)
  replace hW := Below.only hW ho hlo3
  clear hold
  have hB3 := hb
  clear hb ho
  refine l_as hf rfl rfl ?_; intro a hf
  refine wpList_nil ?_
  refine hK12 _ _ ?_; try clear hK12 K12
  refine wp_ret ?_
  refine x_retS ?_
  refine c_ret hf (res2 hf rfl (ResV.cellN (l := [.int .i64 0, .int .i64 0, .slice none 0 0]) rfl tN_141 (hB3.at 0) rfl) rfl) ?_
  have he : matOf R C f = none := by rw [matOf, hn]; rfl
  rw [he]
  exact ⟨none, 0, rfl, (Own.nil _ _ _ _ _), hW⟩
 have hc11b := hc11
 have hy := or2_true hc11
 have hy2 := (Bool.and_eq_true _ _ ▸ hy : isDimB R = true ∧ isDimB C = true)
 have hR := isDimB_iff hy2.1
 have hC := isDimB_iff hy2.2
 refine wp_skip ?_
 refine hK8 _ _ ?_; try clear hK8 K8
 refine wp_seq_k ?_; intro K14 hK14
 refine wp_seq_k ?_; intro K15 hK15
 refine wp_region_lit ?_
 refine l_mv hf rfl rfl ?_; intro a hf
 refine l_mv hf rfl rfl ?_; intro a hf
 refine wpList_nil ?_
 refine hK15 _ _ ?_; try clear hK15 K15
 refine wp_block ?_
 refine c_loop (σ := Nat × (List Dy)) (fun (s : Nat × (List Dy)) (a : Act) (w : World) => match s with | (i, l) => ∃ A16 c16, Fr a 52 [(1, .int .i64 C), (2, .func (.func k) #[] caps.toArray), (6, .pointer (some ⟨b3, 0, none⟩)), (8, .pointer (some ⟨b7, 0, none⟩)), (25, .int .i64 R), (26, .int .i64 (i : Int))] ∧ ((i : Int) ≤ R) ∧ (seqO (gridG f C.toNat) (i * C.toNat) = some l) ∧ Blk w b3 141 [.int .i64 0, .int .i64 0, .slice none 0 0] ∧ Blk w b7 141 [.int .i64 R, .int .i64 C, .slice A16 l.length c16] ∧ Own w w0.heap.size 189 5 encD A16 c16 l ∧ Below w0.heap.size w0 w) (fun (s : Nat × (List Dy)) => match s with | (i, l) => (R - i).toNat) (0, []) ?_ ?_
 · exact ⟨none, 0, hf.sub ⟨rfl, rfl, rfl, rfl, rfl, rfl, trivial⟩, (by omega), (by rw [Nat.zero_mul]; rfl), hB3, hB7, (Own.nil _ _ _ _ _), hW⟩
 rintro ⟨i, l⟩ a w5 ⟨A16, c16, hf, hiR, hl, hB3, hB7, ho16, hW⟩
 refine wp_seq_k ?_; intro K17 hK17
 refine wp_region_lit ?_
 refine l_e hf rfl (ev_lss hf rfl rfl) ?_; intro a hf
 refine wpList_nil ?_
 refine hK17 _ _ ?_; try clear hK17 K17
 refine wp_seq_k ?_; intro K18 hK18
 refine c_if hf rfl (fun hc19 => ?_) (fun hc19 => ?_)
 ·have hc19b := hc19
  have hc19 := of_decide_eq_true hc19
  have hi1 : (i : Int) < R := hc19
  have hb1 : i * C.toNat ≤ 1024 := Nat.le_trans (Nat.mul_le_mul (show i ≤ 32 by omega) (show C.toNat ≤ 32 by omega)) (by decide)
  refine wp_skip ?_
  refine hK18 _ _ ?_; try clear hK18 K18
  refine wp_seq_k ?_; intro K20 hK20
  refine wp_block ?_
  refine wp_seq_k ?_; intro K21 hK21
  refine wp_region_lit ?_
  refine l_mv hf rfl rfl ?_; intro a hf
  refine l_as hf rfl rfl ?_; intro a hf
  refine wpList_nil ?_
  refine hK21 _ _ ?_; try clear hK21 K21
  refine wp_seq_k ?_; intro K22 hK22
  refine wp_region_lit ?_
  refine l_mv hf rfl rfl ?_; intro a hf
  refine l_mv hf rfl rfl ?_; intro a hf
  refine wpList_nil ?_
  refine hK22 _ _ ?_; try clear hK22 K22
  refine wp_block ?_
  refine c_loop (σ := Nat × (List Dy)) (fun (s : Nat × (List Dy)) (a : Act) (w : World) => match s with | (j, l2) => ∃ A23 c23, Fr a 52 [(1, .int .i64 C), (2, .func (.func k) #[] caps.toArray), (6, .pointer (some ⟨b3, 0, none⟩)), (8, .pointer (some ⟨b7, 0, none⟩)), (9, .int .i64 (i : Int)), (25, .int .i64 R), (26, .int .i64 (i : Int)), (29, .int .i64 C), (30, .int .i64 (j : Int))] ∧ ((j : Int) ≤ C) ∧ (seqO (gridG f C.toNat) (i * C.toNat + j) = some l2) ∧ Blk w b3 141 [.int .i64 0, .int .i64 0, .slice none 0 0] ∧ Blk w b7 141 [.int .i64 R, .int .i64 C, .slice A23 l2.length c23] ∧ Own w w0.heap.size 189 5 encD A23 c23 l2 ∧ Below w0.heap.size w0 w) (fun (s : Nat × (List Dy)) => match s with | (j, l2) => (C - j).toNat) (0, l) ?_ ?_
  · exact ⟨A16, c16, hf.sub ⟨rfl, rfl, rfl, rfl, rfl, rfl, rfl, rfl, rfl, trivial⟩, (by omega), hl, hB3, hB7, ho16, hW⟩
  rintro ⟨j, l2⟩ a w6 ⟨A23, c23, hf, hjC, hl2, hB3, hB7, ho23, hW⟩
  refine wp_seq_k ?_; intro K24 hK24
  refine wp_region_lit ?_
  refine l_e hf rfl (ev_lss hf rfl rfl) ?_; intro a hf
  refine wpList_nil ?_
  refine hK24 _ _ ?_; try clear hK24 K24
  refine wp_seq_k ?_; intro K25 hK25
  refine c_if hf rfl (fun hc26 => ?_) (fun hc26 => ?_)
  ·have hc26b := hc26
   have hc26 := of_decide_eq_true hc26
   have hj1 : (j : Int) < C := hc26
   have hlen := seqO_len hl2
   refine wp_skip ?_
   refine hK25 _ _ ?_; try clear hK25 K25
   refine wp_seq_k ?_; intro K27 hK27
   refine wp_block ?_
   refine wp_seq_k ?_; intro K28 hK28
   refine wp_region_lit ?_
   refine l_mv hf rfl rfl ?_; intro a hf
   refine l_as hf rfl rfl ?_; intro a hf
   refine wpList_nil ?_
   refine hK28 _ _ ?_; try clear hK28 K28
   refine wp_seq_k ?_; intro K29 hK29
   refine wp_region_lit ?_
   refine l_mv hf rfl rfl ?_; intro a hf
   refine l_mv hf rfl rfl ?_; intro a hf
   refine l_mv hf rfl rfl ?_; intro a hf
   refine l_f hf rfl (ef_callv (cs := caps) (vs := [.int .i64 (i : Int), .int .i64 (j : Int)]) hf rfl rfl hF (hcell i j _ hi1 hj1 hW)) ?_; rintro a _ w7 ⟨rfl, hE⟩ hf
   replace hB3 := hB3.below hE
   replace hB7 := hB7.below hE
   replace ho23 := ho23.below hE
   replace hW := btr hW hE
   clear hE
   refine l_mv hf rfl rfl ?_; intro a hf
   refine l_e hf rfl (ev_extract (vs := [.agg #[.int .i64 (((f i j).getD dZ).num.a), .int .i64 (((f i j).getD dZ).num.b), .int .i64 (((f i j).getD dZ).num.c), .int .i64 (((f i j).getD dZ).num.d), .int .i64 (((f i j).getD dZ).exp)], .bool ((f i j).isSome)]) hf rfl rfl) ?_; intro a hf
   refine l_e hf rfl (ev_extract (vs := [.agg #[.int .i64 (((f i j).getD dZ).num.a), .int .i64 (((f i j).getD dZ).num.b), .int .i64 (((f i j).getD dZ).num.c), .int .i64 (((f i j).getD dZ).num.d), .int .i64 (((f i j).getD dZ).exp)], .bool ((f i j).isSome)]) hf rfl rfl) ?_; intro a hf
   refine l_f hf rfl (ef_alloc (zs := [.int .i64 0, .int .i64 0, .int .i64 0, .int .i64 0, .int .i64 0]) z_189 rfl) ?_; rintro a _ w8 ⟨b30, rfl, hl30, hE, hB30⟩ hf
   have hlo30 := Nat.le_trans hW.size hl30
   have haw23_30 := ho23.away hl30
   replace hB3 := hB3.below hE
   replace hB7 := hB7.below hE
   replace ho23 := ho23.below hE
   replace hW := btr hW hE
   clear hE
   refine l_f0 hf (ef_store (vs := [.int .i64 (((f i j).getD dZ).num.a), .int .i64 (((f i j).getD dZ).num.b), .int .i64 (((f i j).getD dZ).num.c), .int .i64 (((f i j).getD dZ).num.d), .int .i64 (((f i j).getD dZ).exp)]) (l' := [.int .i64 (((f i j).getD dZ).num.a), .int .i64 (((f i j).getD dZ).num.b), .int .i64 (((f i j).getD dZ).num.c), .int .i64 (((f i j).getD dZ).num.d), .int .i64 (((f i j).getD dZ).exp)]) hf rfl rfl sz_189 hB30 rfl rfl rfl rfl rfl) ?_; rintro a _ w9 ⟨ho, hb⟩ hf
   have hold := hB30
   replace hB3 := hB3.only ho (Blk.ne hB3 hold rfl)
   replace hB7 := hB7.only ho (Blk.ne hB7 hold rfl)
   replace ho23 := ho23.onlyA ho haw23_30
   replace hW := Below.only hW ho hlo30
   clear hold
   have hB30 := hb
   clear hb ho
   refine l_as hf rfl rfl ?_; intro a hf
   refine wpList_nil ?_
   refine hK29 _ _ ?_; try clear hK29 K29
   refine wp_seq_k ?_; intro K31 hK31
   refine wp_seq_k ?_; intro K32 hK32
   refine wp_region_lit ?_
   refine l_mv hf rfl rfl ?_; intro a hf
   refine l_e hf rfl (ev_not hf rfl) ?_; intro a hf
   refine wpList_nil ?_
   refine hK32 _ _ ?_; try clear hK32 K32
   refine c_if hf rfl (fun hc33 => ?_) (fun hc33 => ?_)
   ·have hc33b := hc33
    have hn : gridG f C.toNat (i * C.toNat + j) = none := by rw [gridG_at (by omega)]; revert hc33; cases f i j <;> simp
    refine wp_seq_k ?_; intro K34 hK34
    refine wp_region_lit ?_
    refine l_e hf rfl (ev_build (ps := []) (cs := [.int .i64 0, .int .i64 0, .slice none 0 0]) hf rfl (fun _ => by first | rfl | kernel_rfl)) ?_; intro a hf
    refine l_f0 hf (ef_store (vs := [.int .i64 0, .int .i64 0, .slice none 0 0]) (l' := [.int .i64 0, .int .i64 0, .slice none 0 0]) hf rfl rfl sz_141 hB3 rfl rfl rfl rfl rfl) ?_; rintro a _ w10 ⟨ho, hb⟩ hf
    have hold := hB3
    replace hB7 := hB7.only ho (by omega)
    replace hB30 := hB30.only ho (Blk.ne hB30 hold rfl)
    replace ho23 := ho23.onlyT ho hold rfl
    replace hW := Below.only hW ho hlo3
    clear hold
    have hB3 := hb
    clear hb ho
    refine l_as hf rfl rfl ?_; intro a hf
    refine wpList_nil ?_
    refine hK34 _ _ ?_; try clear hK34 K34
    refine wp_ret ?_
    refine x_retS ?_
    refine x_retB ?_
    refine x_retS ?_
    refine x_retS ?_
    refine x_retB ?_
    refine x_retB ?_
    refine x_retS ?_
    refine x_retS ?_
    refine x_retB ?_
    refine x_retS ?_
    refine c_ret hf (res2 hf rfl (ResV.cellN (l := [.int .i64 0, .int .i64 0, .slice none 0 0]) rfl tN_141 (hB3.at 0) rfl) rfl) ?_
    have he : matOf R C f = none := by rw [matOf, if_pos hy, seqO_none hn _ (grid_lt (by omega) (by omega))]; rfl
    rw [he]
    exact ⟨none, 0, rfl, (Own.nil _ _ _ _ _), hW⟩
   have hc33b := hc33
   have hx : gridG f C.toNat (i * C.toNat + j) = some ((f i j).getD dZ) := by rw [gridG_at (by omega)]; revert hc33; cases f i j <;> simp
   refine wp_skip ?_
   refine hK31 _ _ ?_; try clear hK31 K31
   refine wp_region_lit ?_
   refine l_e hf rfl (ev_fieldB hf rfl fd_141_2 (m := 2) rfl) ?_; intro a hf
   refine l_e hf rfl (ev_load1 hf rfl t1_139 (hB7.at 2)) ?_; intro a hf
   refine l_e hf rfl (ev_loadN (l := [.int .i64 (((f i j).getD dZ).num.a), .int .i64 (((f i j).getD dZ).num.b), .int .i64 (((f i j).getD dZ).num.c), .int .i64 (((f i j).getD dZ).num.d), .int .i64 (((f i j).getD dZ).exp)]) hf rfl tN_189 (hB30.at 0) rfl) ?_; intro a hf
   refine l_f hf rfl (ef_buildSlice (k := 1) (vs := [.agg #[.int .i64 (((f i j).getD dZ).num.a), .int .i64 (((f i j).getD dZ).num.b), .int .i64 (((f i j).getD dZ).num.c), .int .i64 (((f i j).getD dZ).num.d), .int .i64 (((f i j).getD dZ).exp)]]) (zs := [.int .i64 (((f i j).getD dZ).num.a), .int .i64 (((f i j).getD dZ).num.b), .int .i64 (((f i j).getD dZ).num.c), .int .i64 (((f i j).getD dZ).num.d), .int .i64 (((f i j).getD dZ).exp)]) hf rfl sl_139 inf_189 rfl rfl) ?_; rintro a _ w11 ⟨b36, rfl, hl36, hE, hB36⟩ hf
   have hne30_36 : b30 ≠ b36 := by have := hB30.lt; omega
   have hlo36 := Nat.le_trans hW.size hl36
   have haw23_36 := ho23.away hl36
   replace hB3 := hB3.below hE
   replace hB7 := hB7.below hE
   replace hB30 := hB30.below hE
   replace ho23 := ho23.below hE
   replace hW := btr hW hE
   clear hE
   refine l_f hf rfl (ef_append (enc := encD) (l := (l2)) (l2 := ([((f i j).getD dZ)])) (B0 := w0.heap.size) hf rfl rfl sl_139 inf_189 encD_len encD_one ho23 (Rd.of_blk hB36 rfl _ hB36.lt) (by simp only [maxLen]; simp; omega) (by simp; omega) hW.size) ?_; rintro a _ w12 ⟨A38, c38, rfl, ho38, hg, hat⟩ hf
   have hown : Own _ w0.heap.size 189 5 encD _ _ (l2) := ho23
   have haw38_30 := hat _ hB30.lt haw23_30
   have haw38_36 := hat _ hB36.lt haw23_36
   clear hat
   replace hB3 := hB3.appT hown hg rfl
   replace hB7 := hB7.appT hown hg rfl
   replace hB30 := hB30.appA hg haw23_30
   replace hW := Below.app hW hown hg (Nat.le_refl _) hW.size
   clear hown hg
   refine l_e hf rfl (ev_fieldB hf rfl fd_141_2 (m := 2) rfl) ?_; intro a hf
   refine l_f0 hf (ef_store (vs := [.slice A38 (l2 ++ ([((f i j).getD dZ)])).length c38]) (l' := [.int .i64 R, .int .i64 C, .slice A38 (l2 ++ ([((f i j).getD dZ)])).length c38]) hf rfl rfl sz_139 hB7 rfl rfl rfl rfl rfl) ?_; rintro a _ w13 ⟨ho, hb⟩ hf
   have hold := hB7
   replace hB3 := hB3.only ho (by omega)
   replace hB30 := hB30.only ho (Blk.ne hB30 hold rfl)
   replace ho38 := ho38.onlyT ho hold rfl
   replace hW := Below.only hW ho hlo7
   clear hold
   have hB7 := hb
   clear hb ho
   refine wpList_nil ?_
   refine x_norm ?_
   refine hK27 _ _ ?_; try clear hK27 K27
   refine wp_region_lit ?_
   refine l_e hf rfl (ev_addx hf rfl rfl (by omega) (by omega)) ?_; intro a hf
   refine l_mv hf rfl rfl ?_; intro a hf
   refine wpList_nil ?_
   refine x_thenN ?_
   exact ⟨(j + 1, l2 ++ [((f i j).getD dZ)]), ⟨A38, c38, hf.sub ⟨rfl, rfl, rfl, rfl, rfl, rfl, rfl, rfl, rfl, trivial⟩, (by omega), (seqO_step hl2 hx), hB3, hB7, ho38, hW⟩, (by first | omega | (dsimp only; omega))⟩
  have hc26b := hc26
  have hc26 := of_decide_eq_false hc26
  have hj1 : j = C.toNat := by omega
  refine wp_exit ?_
  refine x_exS ?_
  refine x_exS ?_
  refine x_exit ?_
  refine x_norm ?_
  refine hK20 _ _ ?_; try clear hK20 K20
  refine wp_region_lit ?_
  refine l_e hf rfl (ev_addx hf rfl rfl (by omega) (by omega)) ?_; intro a hf
  refine l_mv hf rfl rfl ?_; intro a hf
  refine wpList_nil ?_
  refine x_thenN ?_
  exact ⟨(i + 1, l2), ⟨A23, c23, hf.sub ⟨rfl, rfl, rfl, rfl, rfl, rfl, trivial⟩, (by omega), (by rw [Nat.add_mul, Nat.one_mul, ← hj1]; rw [← hj1] at hl2; exact hl2), hB3, hB7, ho23, hW⟩, (by first | omega | (dsimp only; omega))⟩
 have hc19b := hc19
 have hc19 := of_decide_eq_false hc19
 have hi1 : i = R.toNat := by omega
 refine wp_exit ?_
 refine x_exS ?_
 refine x_exS ?_
 refine x_exit ?_
 refine hK14 _ _ ?_; try clear hK14 K14
 refine wp_seq_k ?_; intro K39 hK39
 refine wp_region_lit ?_
 refine l_e hf rfl (ev_loadN (l := [.int .i64 R, .int .i64 C, .slice A16 l.length c16]) hf rfl tN_141 (hB7.at 0) rfl) ?_; intro a hf
 refine l_f0 hf (ef_store (vs := [.int .i64 R, .int .i64 C, .slice A16 l.length c16]) (l' := [.int .i64 R, .int .i64 C, .slice A16 l.length c16]) hf rfl rfl sz_141 hB3 rfl rfl rfl rfl rfl) ?_; rintro a _ w14 ⟨ho, hb⟩ hf
 have hold := hB3
 replace hB7 := hB7.only ho (by omega)
 replace ho16 := ho16.onlyT ho hold rfl
 replace hW := Below.only hW ho hlo3
 clear hold
 have hB3 := hb
 clear hb ho
 refine l_as hf rfl rfl ?_; intro a hf
 refine wpList_nil ?_
 refine hK39 _ _ ?_; try clear hK39 K39
 refine wp_ret ?_
 refine c_ret hf (res2 hf rfl (ResV.cellN (l := [.int .i64 R, .int .i64 C, .slice A16 l.length c16]) rfl tN_141 (hB3.at 0) rfl) rfl) ?_
 have he : matOf R C f = some ⟨R, C, l⟩ := by rw [matOf, if_pos hy, ← hi1, hl]; rfl
 rw [he]
 exact ⟨A16, c16, rfl, ho16, hW⟩
end Go.Proofs.YtfgnmflfiobkmaaGreat
set_option maxRecDepth 4000
namespace Go.Proofs.YtfgnmflfiobkmaaGreat
open Go.RowKit
theorem F186 (w0 : World) (i : Int) (j : Int) : Ret Tryz.prog 186 [.int .i64 i, .int .i64 j] w0 (fun v w => v = .tuple #[dV (if i = j then (⟨⟨1, 0, 0, 0⟩, 0⟩ : Dy) else dZ), .bool true] ∧ Below w0.heap.size w0 w) := by
 refine enter Tryz.func186 rfl 11 rfl rfl ?_
 intro a hf
 have hW : Below w0.heap.size w0 w0 := Below.refl _ _
 refine wp_seq_k ?_; intro K1 hK1
 refine wp_region_lit ?_
 refine l_f hf rfl (ef_alloc (zs := [.int .i64 0, .int .i64 0, .int .i64 0, .int .i64 0, .int .i64 0]) z_189 rfl) ?_; rintro a _ w1 ⟨b2, rfl, hl2, hE, hB2⟩ hf
 have hlo2 := Nat.le_trans hW.size hl2
 replace hW := btr hW hE
 clear hE
 refine l_as hf rfl rfl ?_; intro a hf
 refine wpList_nil ?_
 refine hK1 _ _ ?_; try clear hK1 K1
 refine wp_seq_k ?_; intro K3 hK3
 refine wp_seq_k ?_; intro K4 hK4
 refine wp_region_lit ?_
 refine l_mv hf rfl rfl ?_; intro a hf
 refine l_mv hf rfl rfl ?_; intro a hf
 refine l_e hf rfl (ev_eql hf rfl rfl) ?_; intro a hf
 refine wpList_nil ?_
 refine hK4 _ _ ?_; try clear hK4 K4
 refine c_if hf rfl (fun hc5 => ?_) (fun hc5 => ?_)
 ·have hc5b := hc5
  have hij : i = j := by revert hc5; simp
  refine wp_seq_k ?_; intro K6 hK6
  refine wp_region_lit ?_
  refine l_f hf rfl (ef_call (vs := [.int .i64 1]) hf rfl ff_187 (F187 _ 1)) ?_; rintro a _ w2 ⟨rfl, hE⟩ hf
  replace hB2 := hB2.below hE
  replace hW := btr hW hE
  clear hE
  refine l_f0 hf (ef_store (vs := [.int .i64 ((⟨⟨1, 0, 0, 0⟩, 0⟩ : Dy).num.a), .int .i64 ((⟨⟨1, 0, 0, 0⟩, 0⟩ : Dy).num.b), .int .i64 ((⟨⟨1, 0, 0, 0⟩, 0⟩ : Dy).num.c), .int .i64 ((⟨⟨1, 0, 0, 0⟩, 0⟩ : Dy).num.d), .int .i64 ((⟨⟨1, 0, 0, 0⟩, 0⟩ : Dy).exp)]) (l' := [.int .i64 ((⟨⟨1, 0, 0, 0⟩, 0⟩ : Dy).num.a), .int .i64 ((⟨⟨1, 0, 0, 0⟩, 0⟩ : Dy).num.b), .int .i64 ((⟨⟨1, 0, 0, 0⟩, 0⟩ : Dy).num.c), .int .i64 ((⟨⟨1, 0, 0, 0⟩, 0⟩ : Dy).num.d), .int .i64 ((⟨⟨1, 0, 0, 0⟩, 0⟩ : Dy).exp)]) hf rfl rfl sz_189 hB2 rfl rfl rfl rfl rfl) ?_; rintro a _ w3 ⟨ho, hb⟩ hf
  have hold := hB2
  replace hW := Below.only hW ho hlo2
  clear hold
  have hB2 := hb
  clear hb ho
  refine l_as hf rfl rfl ?_; intro a hf
  refine wpList_nil ?_
  refine hK6 _ _ ?_; try clear hK6 K6
  refine wp_ret ?_
  refine x_retS ?_
  refine c_ret hf (res2 hf rfl (ResV.cellN (l := [.int .i64 ((⟨⟨1, 0, 0, 0⟩, 0⟩ : Dy).num.a), .int .i64 ((⟨⟨1, 0, 0, 0⟩, 0⟩ : Dy).num.b), .int .i64 ((⟨⟨1, 0, 0, 0⟩, 0⟩ : Dy).num.c), .int .i64 ((⟨⟨1, 0, 0, 0⟩, 0⟩ : Dy).num.d), .int .i64 ((⟨⟨1, 0, 0, 0⟩, 0⟩ : Dy).exp)]) rfl tN_189 (hB2.at 0) rfl) rfl) ?_
  exact ⟨by rw [if_pos hij], hW⟩
 have hc5b := hc5
 have hij : ¬ i = j := by revert hc5; simp
 refine wp_skip ?_
 refine hK3 _ _ ?_; try clear hK3 K3
 refine wp_seq_k ?_; intro K7 hK7
 refine wp_region_lit ?_
 refine l_e hf rfl (ev_build (ps := []) (cs := [.int .i64 0, .int .i64 0, .int .i64 0, .int .i64 0, .int .i64 0]) hf rfl (fun _ => by first | rfl | kernel_rfl)) ?_; intro a hf
 refine l_f0 hf (ef_store (vs := [.int .i64 0, .int .i64 0, .int .i64 0, .int .i64 0, .int .i64 0]) (l' := [.int .i64 0, .int .i64 0, .int .i64 0, .int .i64 0, .int .i64 0]) hf rfl rfl sz_189 hB2 rfl rfl rfl rfl rfl) ?_; rintro a _ w4 ⟨ho, hb⟩ hf
 have hold := hB2
 replace hW := Below.only hW ho hlo2
 clear hold
 have hB2 := hb
 clear hb ho
 refine l_as hf rfl rfl ?_; intro a hf
 refine wpList_nil ?_
 refine hK7 _ _ ?_; try clear hK7 K7
 refine wp_ret ?_
 refine c_ret hf (res2 hf rfl (ResV.cellN (l := [.int .i64 0, .int .i64 0, .int .i64 0, .int .i64 0, .int .i64 0]) rfl tN_189 (hB2.at 0) rfl) rfl) ?_
 exact ⟨by rw [if_neg hij]; rfl, hW⟩
theorem F136 (w0 : World) (n : Int) : Ret Tryz.prog 136 [.int .i64 n] w0 (fun v w => ∃ A c, v = .tuple #[mV A c ((idI n).getD mZ), .bool (idI n).isSome] ∧ Own w w0.heap.size 189 5 encD A c ((idI n).getD mZ).cells ∧ Below w0.heap.size w0 w) := by
 refine enter Tryz.func136 rfl 9 rfl rfl ?_
 intro a hf
 have hW : Below w0.heap.size w0 w0 := Below.refl _ _
 refine wp_seq_k ?_; intro K1 hK1
 refine wp_region_lit ?_
 refine l_f hf rfl (ef_alloc (zs := [.int .i64 0, .int .i64 0, .slice none 0 0]) z_141 rfl) ?_; rintro a _ w1 ⟨b3, rfl, hl3, hE, hB3⟩ hf
 have hlo3 := Nat.le_trans hW.size hl3
 replace hW := btr hW hE
 clear hE
 refine l_as hf rfl rfl ?_; intro a hf
 refine wpList_nil ?_
 refine hK1 _ _ ?_; try clear hK1 K1
 refine wp_seq_k ?_; intro K4 hK4
 refine wp_region_lit ?_
 refine l_mv hf rfl rfl ?_; intro a hf
 refine l_mv hf rfl rfl ?_; intro a hf
 refine l_f hf rfl (ef_call (vs := [.int .i64 n, .int .i64 n, .func (.func 186) #[] #[]]) hf rfl ff_185 (F185 _ n n 186 [] ff_186 (fun i j => some (if i = j then ⟨⟨1, 0, 0, 0⟩, 0⟩ else dZ)) (fun i j w' hi hj hE' => (F186 w' (i : Int) (j : Int)).mono fun v w'' ⟨h1, h2⟩ => ⟨by rw [h1]; simp only [Int.natCast_inj]; rfl, h2⟩))) ?_; rintro a _ w2 ⟨A5, c5, rfl, ho5, hE⟩ hf
 replace ho5 := ho5.lower hW.size
 replace hB3 := hB3.below hE
 replace hW := btr hW hE
 clear hE
 refine l_e hf rfl (ev_extract (vs := [.agg #[.int .i64 (((matOf n n (fun i j => some (if i = j then ⟨⟨1, 0, 0, 0⟩, 0⟩ else dZ))).getD mZ).rows), .int .i64 (((matOf n n (fun i j => some (if i = j then ⟨⟨1, 0, 0, 0⟩, 0⟩ else dZ))).getD mZ).cols), .slice A5 (((matOf n n (fun i j => some (if i = j then ⟨⟨1, 0, 0, 0⟩, 0⟩ else dZ))).getD mZ).cells).length c5], .bool ((matOf n n (fun i j => some (if i = j then ⟨⟨1, 0, 0, 0⟩, 0⟩ else dZ))).isSome)]) hf rfl rfl) ?_; intro a hf
 refine l_e hf rfl (ev_extract (vs := [.agg #[.int .i64 (((matOf n n (fun i j => some (if i = j then ⟨⟨1, 0, 0, 0⟩, 0⟩ else dZ))).getD mZ).rows), .int .i64 (((matOf n n (fun i j => some (if i = j then ⟨⟨1, 0, 0, 0⟩, 0⟩ else dZ))).getD mZ).cols), .slice A5 (((matOf n n (fun i j => some (if i = j then ⟨⟨1, 0, 0, 0⟩, 0⟩ else dZ))).getD mZ).cells).length c5], .bool ((matOf n n (fun i j => some (if i = j then ⟨⟨1, 0, 0, 0⟩, 0⟩ else dZ))).isSome)]) hf rfl rfl) ?_; intro a hf
 refine l_f0 hf (ef_store (vs := [.int .i64 (((matOf n n (fun i j => some (if i = j then ⟨⟨1, 0, 0, 0⟩, 0⟩ else dZ))).getD mZ).rows), .int .i64 (((matOf n n (fun i j => some (if i = j then ⟨⟨1, 0, 0, 0⟩, 0⟩ else dZ))).getD mZ).cols), .slice A5 (((matOf n n (fun i j => some (if i = j then ⟨⟨1, 0, 0, 0⟩, 0⟩ else dZ))).getD mZ).cells).length c5]) (l' := [.int .i64 (((matOf n n (fun i j => some (if i = j then ⟨⟨1, 0, 0, 0⟩, 0⟩ else dZ))).getD mZ).rows), .int .i64 (((matOf n n (fun i j => some (if i = j then ⟨⟨1, 0, 0, 0⟩, 0⟩ else dZ))).getD mZ).cols), .slice A5 (((matOf n n (fun i j => some (if i = j then ⟨⟨1, 0, 0, 0⟩, 0⟩ else dZ))).getD mZ).cells).length c5]) hf rfl rfl sz_141 hB3 rfl rfl rfl rfl rfl) ?_; rintro a _ w3 ⟨ho, hb⟩ hf
 have hold := hB3
 replace ho5 := ho5.onlyT ho hold rfl
 replace hW := Below.only hW ho hlo3
 clear hold
 have hB3 := hb
 clear hb ho
 refine l_as hf rfl rfl ?_; intro a hf
 refine wpList_nil ?_
 refine hK4 _ _ ?_; try clear hK4 K4
 refine wp_ret ?_
 refine c_ret hf (res2 hf rfl (ResV.cellN (l := [.int .i64 (((matOf n n (fun i j => some (if i = j then ⟨⟨1, 0, 0, 0⟩, 0⟩ else dZ))).getD mZ).rows), .int .i64 (((matOf n n (fun i j => some (if i = j then ⟨⟨1, 0, 0, 0⟩, 0⟩ else dZ))).getD mZ).cols), .slice A5 (((matOf n n (fun i j => some (if i = j then ⟨⟨1, 0, 0, 0⟩, 0⟩ else dZ))).getD mZ).cells).length c5]) rfl tN_141 (hB3.at 0) rfl) rfl) ?_
 exact ⟨A5, c5, rfl, ho5, hW⟩
theorem F222 (w0 : World) (p q : Mx) (Aa Ab : Option Addr) (ca cb : Nat) (ba bb : Nat) (hra : Rd w0 w0.heap.size 189 encD Aa p.cells) (hrb : Rd w0 w0.heap.size 189 encD Ab q.cells) (hBa : Blk w0 ba 141 [.int .i64 p.rows, .int .i64 p.cols, .slice Aa p.cells.length ca]) (hBb : Blk w0 bb 141 [.int .i64 q.rows, .int .i64 q.cols, .slice Ab q.cells.length cb]) (hao : mOk p = true) (hbo : mOk q = true) (hab : p.cols = q.rows) (i j : Nat) (hi : (i : Int) < p.rows) (hj : (j : Int) < q.cols) : Ret Tryz.prog 222 [.int .i64 (i : Int), .int .i64 (j : Int), .pointer (some ⟨ba, 0, none⟩), .pointer (some ⟨bb, 0, none⟩)] w0 (fun v w => v = .tuple #[dV ((dotI p q i j p.cols.toNat).getD dZ), .bool (dotI p q i j p.cols.toNat).isSome] ∧ Below w0.heap.size w0 w) := by
 have hal := mOk_len hao
 have hltba := hBa.lt
 have hltbb := hBb.lt
 have hcc : p.cols = (p.cols.toNat : Int) := by omega
 refine enter Tryz.func222 rfl 48 rfl rfl ?_
 intro a hf
 have hW : Below w0.heap.size w0 w0 := Below.refl _ _
 refine wp_seq_k ?_; intro K3 hK3
 refine wp_region_lit ?_
 refine l_f hf rfl (ef_alloc (zs := [.int .i64 0, .int .i64 0, .int .i64 0, .int .i64 0, .int .i64 0]) z_189 rfl) ?_; rintro a _ w1 ⟨b4, rfl, hl4, hE, hB4⟩ hf
 have hlo4 := Nat.le_trans hW.size hl4
 have haw1_4 := (hra.below' hW).away hl4
 have haw2_4 := (hrb.below' hW).away hl4
 replace hBa := hBa.below hE
 replace hBb := hBb.below hE
 replace hW := btr hW hE
 clear hE
 refine l_as hf rfl rfl ?_; intro a hf
 refine wpList_nil ?_
 refine hK3 _ _ ?_; try clear hK3 K3
 refine wp_seq_k ?_; intro K5 hK5
 refine wp_region_lit ?_
 refine l_e hf rfl (ev_build (ps := []) (cs := [.int .i64 0, .int .i64 0, .int .i64 0, .int .i64 0, .int .i64 0]) hf rfl (fun _ => by first | rfl | kernel_rfl)) ?_; intro a hf
 refine l_f hf rfl (ef_alloc (zs := [.int .i64 0, .int .i64 0, .int .i64 0, .int .i64 0, .int .i64 0]) z_189 rfl) ?_; rintro a _ w2 ⟨b6, rfl, hl6, hE, hB6⟩ hf
 have hne4_6 : b4 ≠ b6 := by have := hB4.lt; omega
 have hlo6 := Nat.le_trans hW.size hl6
 have haw1_6 := (hra.below' hW).away hl6
 have haw2_6 := (hrb.below' hW).away hl6
 replace hBa := hBa.below hE
 replace hBb := hBb.below hE
 replace hB4 := hB4.below hE
 replace hW := btr hW hE
 clear hE
 refine l_f0 hf (ef_store (vs := [.int .i64 0, .int .i64 0, .int .i64 0, .int .i64 0, .int .i64 0]) (l' := [.int .i64 0, .int .i64 0, .int .i64 0, .int .i64 0, .int .i64 0]) hf rfl rfl sz_189 hB6 rfl rfl rfl rfl rfl) ?_; rintro a _ w3 ⟨ho, hb⟩ hf
 have hold := hB6
 replace hBa := hBa.only ho (Blk.ne hBa hold rfl)
 replace hBb := hBb.only ho (Blk.ne hBb hold rfl)
 replace hB4 := hB4.only ho (by omega)
 replace hW := Below.only hW ho hlo6
 clear hold
 have hB6 := hb
 clear hb ho
 refine wpList_nil ?_
 refine hK5 _ _ ?_; try clear hK5 K5
 refine wp_seq_k ?_; intro K7 hK7
 refine wp_seq_k ?_; intro K8 hK8
 refine wp_region_lit ?_
 refine l_e hf rfl (ev_fieldB hf rfl fd_141_1 (m := 1) rfl) ?_; intro a hf
 refine l_e hf rfl (ev_load1 hf rfl t1_3 (hBa.at 1)) ?_; intro a hf
 refine l_mv hf rfl rfl ?_; intro a hf
 refine wpList_nil ?_
 refine hK8 _ _ ?_; try clear hK8 K8
 refine wp_block ?_
 refine c_loop (σ := Nat × Dy) (fun (s : Nat × Dy) (a : Act) (w : World) => match s with | (k, sum) => Fr a 48 [(0, .int .i64 (i : Int)), (1, .int .i64 (j : Int)), (2, .pointer (some ⟨ba, 0, none⟩)), (3, .pointer (some ⟨bb, 0, none⟩)), (6, .pointer (some ⟨b4, 0, none⟩)), (8, .pointer (some ⟨b6, 0, none⟩)), (16, .int .i64 p.cols), (17, .int .i64 (k : Int))] ∧ ((k : Int) ≤ p.cols) ∧ (dotI p q i j k = some sum) ∧ Blk w ba 141 [.int .i64 p.rows, .int .i64 p.cols, .slice Aa p.cells.length ca] ∧ Blk w bb 141 [.int .i64 q.rows, .int .i64 q.cols, .slice Ab q.cells.length cb] ∧ Blk w b4 189 [.int .i64 0, .int .i64 0, .int .i64 0, .int .i64 0, .int .i64 0] ∧ Blk w b6 189 [.int .i64 sum.num.a, .int .i64 sum.num.b, .int .i64 sum.num.c, .int .i64 sum.num.d, .int .i64 sum.exp] ∧ Below w0.heap.size w0 w) (fun (s : Nat × Dy) => match s with | (k, sum) => (p.cols - k).toNat) (0, dZ) ?_ ?_
 · exact ⟨hf.sub ⟨rfl, rfl, rfl, rfl, rfl, rfl, rfl, rfl, trivial⟩, (by omega), rfl, hBa, hBb, hB4, hB6, hW⟩
 rintro ⟨k, sum⟩ a w4 ⟨hf, hk, hs, hBa, hBb, hB4, hB6, hW⟩
 refine wp_seq_k ?_; intro K9 hK9
 refine wp_region_lit ?_
 refine l_e hf rfl (ev_lss hf rfl rfl) ?_; intro a hf
 refine wpList_nil ?_
 refine hK9 _ _ ?_; try clear hK9 K9
 refine wp_seq_k ?_; intro K10 hK10
 refine c_if hf rfl (fun hc11 => ?_) (fun hc11 => ?_)
 ·have hc11b := hc11
  have hc11 := of_decide_eq_true hc11
  have hk1 : (k : Int) < p.cols := hc11
  refine wp_skip ?_
  refine hK10 _ _ ?_; try clear hK10 K10
  refine wp_seq_k ?_; intro K12 hK12
  refine wp_block ?_
  refine wp_seq_k ?_; intro K13 hK13
  refine wp_region_lit ?_
  refine l_mv hf rfl rfl ?_; intro a hf
  refine l_as hf rfl rfl ?_; intro a hf
  refine wpList_nil ?_
  refine hK13 _ _ ?_; try clear hK13 K13
  refine wp_seq_k ?_; intro K14 hK14
  refine c_cut (fun a w => ∃ b15, Fr a 48 [(0, .int .i64 (i : Int)), (1, .int .i64 (j : Int)), (2, .pointer (some ⟨ba, 0, none⟩)), (3, .pointer (some ⟨bb, 0, none⟩)), (6, .pointer (some ⟨b4, 0, none⟩)), (8, .pointer (some ⟨b6, 0, none⟩)), (10, .pointer (some ⟨b15, 0, none⟩)), (11, .bool ((dMulI (p.at i k) (q.at k j)).isSome)), (16, .int .i64 p.cols), (17, .int .i64 (k : Int))] ∧ w0.heap.size ≤ b15 ∧ Blk w b15 189 [.int .i64 (((dMulI (p.at i k) (q.at k j)).getD dZ).num.a), .int .i64 (((dMulI (p.at i k) (q.at k j)).getD dZ).num.b), .int .i64 (((dMulI (p.at i k) (q.at k j)).getD dZ).num.c), .int .i64 (((dMulI (p.at i k) (q.at k j)).getD dZ).num.d), .int .i64 (((dMulI (p.at i k) (q.at k j)).getD dZ).exp)] ∧ b4 ≠ b15 ∧ b6 ≠ b15 ∧ Below w4.heap.size w4 w) ?_ ?_
  ·have hEc : Below w4.heap.size w4 w4 := Below.refl _ _
   refine wp_draw none (fun j => [13].contains j) mixed ?_
   intro w5 hE
   replace hBa := hBa.below hE
   replace hBb := hBb.below hE
   replace hB4 := hB4.below hE
   replace hB6 := hB6.below hE
   replace hW := btr hW hE
   replace hEc := btr hEc hE
   clear hE
   refine s_e 0 rfl (by kernel_rfl) (by kernel_rfl) hf rfl (ev_loadN (l := [.int .i64 p.rows, .int .i64 p.cols, .slice Aa p.cells.length ca]) hf rfl tN_141 (hBa.at 0) rfl) ?_; intro a hf
   refine s_e0 1 rfl (by kernel_rfl) hf rfl (fun _ => ev_move hf rfl) ?_; intro a hf
   refine s_e0 2 rfl (by kernel_rfl) hf rfl (fun _ => ev_move hf rfl) ?_; intro a hf
   refine s_e 4 rfl (by kernel_rfl) (by kernel_rfl) hf rfl (ev_loadN (l := [.int .i64 q.rows, .int .i64 q.cols, .slice Ab q.cells.length cb]) hf rfl tN_141 (hBb.at 0) rfl) ?_; intro a hf
   refine s_e0 5 rfl (by kernel_rfl) hf rfl (fun _ => ev_move hf rfl) ?_; intro a hf
   refine s_e0 6 rfl (by kernel_rfl) hf rfl (fun _ => ev_move hf rfl) ?_; intro a hf
   have hJc : Below w5.heap.size w5 w5 := Below.refl _ _
   refine s_cut [0, 1, 2, 3, 4, 5, 6, 7, 8, 9, 10, 11, 12] 2 (fun a w => ∃ b15, Fr a 48 [(0, .int .i64 (i : Int)), (1, .int .i64 (j : Int)), (2, .pointer (some ⟨ba, 0, none⟩)), (3, .pointer (some ⟨bb, 0, none⟩)), (6, .pointer (some ⟨b4, 0, none⟩)), (8, .pointer (some ⟨b6, 0, none⟩)), (10, .pointer (some ⟨b15, 0, none⟩)), (16, .int .i64 p.cols), (17, .int .i64 (k : Int)), (30, .agg #[.int .i64 (((dMulI (p.at i k) (q.at k j)).getD dZ).num.a), .int .i64 (((dMulI (p.at i k) (q.at k j)).getD dZ).num.b), .int .i64 (((dMulI (p.at i k) (q.at k j)).getD dZ).num.c), .int .i64 (((dMulI (p.at i k) (q.at k j)).getD dZ).num.d), .int .i64 (((dMulI (p.at i k) (q.at k j)).getD dZ).exp)]), (31, .bool ((dMulI (p.at i k) (q.at k j)).isSome))] ∧ w0.heap.size ≤ b15 ∧ Blk w b15 189 [.int .i64 0, .int .i64 0, .int .i64 0, .int .i64 0, .int .i64 0] ∧ b4 ≠ b15 ∧ b6 ≠ b15 ∧ w5.heap.size ≤ b15 ∧ w4.heap.size ≤ b15 ∧ AwayR p.cells Aa b15 ∧ AwayR q.cells Ab b15 ∧ Below w5.heap.size w5 w) ?_ ?_
   ·rintro a w6 ⟨b15, hf, hlo15, hB15, hne4_15, hne6_15, hlj15, hlc15, haw1_15, haw2_15, hE⟩
    clear hJc
    have hJc := hE
    replace hBa := hBa.below hE
    replace hBb := hBb.below hE
    replace hB4 := hB4.below hE
    replace hB6 := hB6.below hE
    replace hW := btr hW hE
    replace hEc := btr hEc hE
    clear hE
    refine s_one 13 (by kernel_rfl) ?_
    refine p_eff0 rfl hf trivial rfl (Ef.mono (ef_store (vs := [.int .i64 (((dMulI (p.at i k) (q.at k j)).getD dZ).num.a), .int .i64 (((dMulI (p.at i k) (q.at k j)).getD dZ).num.b), .int .i64 (((dMulI (p.at i k) (q.at k j)).getD dZ).num.c), .int .i64 (((dMulI (p.at i k) (q.at k j)).getD dZ).num.d), .int .i64 (((dMulI (p.at i k) (q.at k j)).getD dZ).exp)]) (l' := [.int .i64 (((dMulI (p.at i k) (q.at k j)).getD dZ).num.a), .int .i64 (((dMulI (p.at i k) (q.at k j)).getD dZ).num.b), .int .i64 (((dMulI (p.at i k) (q.at k j)).getD dZ).num.c), .int .i64 (((dMulI (p.at i k) (q.at k j)).getD dZ).num.d), .int .i64 (((dMulI (p.at i k) (q.at k j)).getD dZ).exp)]) hf rfl rfl sz_189 hB15 rfl rfl rfl rfl rfl) (fun _ _ h => ⟨fun h0 => absurd h0 (by decide), h⟩)) ?_; rintro a _ w7 ⟨ho, hb⟩ hf
    have hold := hB15
    replace hBa := hBa.only ho (Blk.ne hBa hold rfl)
    replace hBb := hBb.only ho (Blk.ne hBb hold rfl)
    replace hB4 := hB4.only ho (by omega)
    replace hB6 := hB6.only ho (by omega)
    replace hEc := Below.only hEc ho hlc15
    replace hJc := Below.only hJc ho hlj15
    replace hW := Below.only hW ho hlo15
    clear hold
    have hB15 := hb
    clear hb ho
    refine s_e0 14 rfl (by kernel_rfl) hf rfl (fun _ => ev_assign hf rfl) ?_; intro a hf
    refine s_done (by kernel_rfl) ?_
    have hEE : Below w4.heap.size w4 w7 := hEc
    exact ⟨b15, hf.sub ⟨rfl, rfl, rfl, rfl, rfl, rfl, rfl, rfl, rfl, rfl, trivial⟩, hlo15, hB15, hne4_15, hne6_15, hEE⟩
   intro hJ15
   refine s_cut [0, 1, 2, 3, 4, 5, 6, 7, 12] 6 (fun a w => ∃ b16, Fr a 48 [(0, .int .i64 (i : Int)), (1, .int .i64 (j : Int)), (2, .pointer (some ⟨ba, 0, none⟩)), (3, .pointer (some ⟨bb, 0, none⟩)), (6, .pointer (some ⟨b4, 0, none⟩)), (8, .pointer (some ⟨b6, 0, none⟩)), (10, .pointer (some ⟨b16, 0, none⟩)), (16, .int .i64 p.cols), (17, .int .i64 (k : Int)), (24, .agg #[.int .i64 ((p.at i k).num.a), .int .i64 ((p.at i k).num.b), .int .i64 ((p.at i k).num.c), .int .i64 ((p.at i k).num.d), .int .i64 ((p.at i k).exp)]), (28, .agg #[.int .i64 ((q.at k j).num.a), .int .i64 ((q.at k j).num.b), .int .i64 ((q.at k j).num.c), .int .i64 ((q.at k j).num.d), .int .i64 ((q.at k j).exp)])] ∧ w0.heap.size ≤ b16 ∧ Blk w b16 189 [.int .i64 0, .int .i64 0, .int .i64 0, .int .i64 0, .int .i64 0] ∧ b4 ≠ b16 ∧ b6 ≠ b16 ∧ w5.heap.size ≤ b16 ∧ w4.heap.size ≤ b16 ∧ AwayR p.cells Aa b16 ∧ AwayR q.cells Ab b16 ∧ Below w5.heap.size w5 w) ?_ ?_
   ·rintro a w8 ⟨b16, hf, hlo16, hB16, hne4_16, hne6_16, hlj16, hlc16, haw1_16, haw2_16, hE⟩
    clear hJc
    have hJc := hE
    replace hBa := hBa.below hE
    replace hBb := hBb.below hE
    replace hB4 := hB4.below hE
    replace hB6 := hB6.below hE
    replace hW := btr hW hE
    replace hEc := btr hEc hE
    clear hE
    refine s_one 8 (by kernel_rfl) ?_
    refine p_eff rfl hf trivial rfl rfl (Ef.mono (ef_call (vs := [.agg #[.int .i64 ((p.at i k).num.a), .int .i64 ((p.at i k).num.b), .int .i64 ((p.at i k).num.c), .int .i64 ((p.at i k).num.d), .int .i64 ((p.at i k).exp)], .agg #[.int .i64 ((q.at k j).num.a), .int .i64 ((q.at k j).num.b), .int .i64 ((q.at k j).num.c), .int .i64 ((q.at k j).num.d), .int .i64 ((q.at k j).exp)]]) hf rfl ff_195 (F195 _ (p.at i k) (q.at k j))) (fun _ _ h => ⟨fun _ => by obtain ⟨rfl, hE⟩ := h; exact hE, h⟩)) ?_; rintro a _ w9 ⟨rfl, hE⟩ hf
    replace hBa := hBa.below hE
    replace hBb := hBb.below hE
    replace hB4 := hB4.below hE
    replace hB6 := hB6.below hE
    replace hB16 := hB16.below hE
    replace hW := btr hW hE
    replace hEc := btr hEc hE
    replace hJc := btr hJc hE
    clear hE
    refine s_e0 9 rfl (by kernel_rfl) hf rfl (fun _ => ev_move hf rfl) ?_; intro a hf
    refine s_e0 10 rfl (by kernel_rfl) hf rfl (fun _ => ev_extract (vs := [.agg #[.int .i64 (((dMulI (p.at i k) (q.at k j)).getD dZ).num.a), .int .i64 (((dMulI (p.at i k) (q.at k j)).getD dZ).num.b), .int .i64 (((dMulI (p.at i k) (q.at k j)).getD dZ).num.c), .int .i64 (((dMulI (p.at i k) (q.at k j)).getD dZ).num.d), .int .i64 (((dMulI (p.at i k) (q.at k j)).getD dZ).exp)], .bool ((dMulI (p.at i k) (q.at k j)).isSome)]) hf rfl rfl) ?_; intro a hf
    refine s_e0 11 rfl (by kernel_rfl) hf rfl (fun _ => ev_extract (vs := [.agg #[.int .i64 (((dMulI (p.at i k) (q.at k j)).getD dZ).num.a), .int .i64 (((dMulI (p.at i k) (q.at k j)).getD dZ).num.b), .int .i64 (((dMulI (p.at i k) (q.at k j)).getD dZ).num.c), .int .i64 (((dMulI (p.at i k) (q.at k j)).getD dZ).num.d), .int .i64 (((dMulI (p.at i k) (q.at k j)).getD dZ).exp)], .bool ((dMulI (p.at i k) (q.at k j)).isSome)]) hf rfl rfl) ?_; intro a hf
    exact hJ15 _ _ _ rfl ⟨b16, hf.sub ⟨rfl, rfl, rfl, rfl, rfl, rfl, rfl, rfl, rfl, rfl, rfl, trivial⟩, hlo16, hB16, hne4_16, hne6_16, hlj16, hlc16, haw1_16, haw2_16, hJc⟩
   intro hJ17
   refine s_cut [0, 1, 2, 3, 4, 5, 6, 12] 7 (fun a w => ∃ b17, Fr a 48 [(0, .int .i64 (i : Int)), (1, .int .i64 (j : Int)), (2, .pointer (some ⟨ba, 0, none⟩)), (3, .pointer (some ⟨bb, 0, none⟩)), (6, .pointer (some ⟨b4, 0, none⟩)), (8, .pointer (some ⟨b6, 0, none⟩)), (10, .pointer (some ⟨b17, 0, none⟩)), (16, .int .i64 p.cols), (17, .int .i64 (k : Int)), (24, .agg #[.int .i64 ((p.at i k).num.a), .int .i64 ((p.at i k).num.b), .int .i64 ((p.at i k).num.c), .int .i64 ((p.at i k).num.d), .int .i64 ((p.at i k).exp)]), (25, .agg #[.int .i64 q.rows, .int .i64 q.cols, .slice Ab q.cells.length cb]), (26, .int .i64 (k : Int)), (27, .int .i64 (j : Int))] ∧ w0.heap.size ≤ b17 ∧ Blk w b17 189 [.int .i64 0, .int .i64 0, .int .i64 0, .int .i64 0, .int .i64 0] ∧ b4 ≠ b17 ∧ b6 ≠ b17 ∧ w5.heap.size ≤ b17 ∧ w4.heap.size ≤ b17 ∧ AwayR p.cells Aa b17 ∧ AwayR q.cells Ab b17 ∧ Below w5.heap.size w5 w) ?_ ?_
   ·rintro a w10 ⟨b17, hf, hlo17, hB17, hne4_17, hne6_17, hlj17, hlc17, haw1_17, haw2_17, hE⟩
    clear hJc
    have hJc := hE
    replace hBa := hBa.below hE
    replace hBb := hBb.below hE
    replace hB4 := hB4.below hE
    replace hB6 := hB6.below hE
    replace hW := btr hW hE
    replace hEc := btr hEc hE
    clear hE
    refine s_one 7 (by kernel_rfl) ?_
    refine p_eff rfl hf trivial rfl rfl (Ef.mono (ef_call (vs := [.agg #[.int .i64 q.rows, .int .i64 q.cols, .slice Ab q.cells.length cb], .int .i64 (k : Int), .int .i64 (j : Int)]) hf rfl ff_196 (F196 _ q Ab cb (hrb.below' hW).top k j hbo (by omega) hj)) (fun _ _ h => ⟨fun _ => by obtain ⟨rfl, hE⟩ := h; exact hE, h⟩)) ?_; rintro a _ w11 ⟨rfl, hE⟩ hf
    replace hBa := hBa.below hE
    replace hBb := hBb.below hE
    replace hB4 := hB4.below hE
    replace hB6 := hB6.below hE
    replace hB17 := hB17.below hE
    replace hW := btr hW hE
    replace hEc := btr hEc hE
    replace hJc := btr hJc hE
    clear hE
    exact hJ17 _ _ _ rfl ⟨b17, hf.sub ⟨rfl, rfl, rfl, rfl, rfl, rfl, rfl, rfl, rfl, rfl, rfl, trivial⟩, hlo17, hB17, hne4_17, hne6_17, hlj17, hlc17, haw1_17, haw2_17, hJc⟩
   intro hJ19
   refine s_two 3 12 (by kernel_rfl) ?_ ?_
   ·refine p_eff rfl hf trivial rfl rfl (Ef.mono (ef_call (vs := [.agg #[.int .i64 p.rows, .int .i64 p.cols, .slice Aa p.cells.length ca], .int .i64 (i : Int), .int .i64 (k : Int)]) hf rfl ff_196 (F196 _ p Aa ca (hra.below' hW).top i k hao hi (by omega))) (fun _ _ h => ⟨fun _ => by obtain ⟨rfl, hE⟩ := h; exact hE, h⟩)) ?_; rintro a _ w12 ⟨rfl, hE⟩ hf
    replace hBa := hBa.below hE
    replace hBb := hBb.below hE
    replace hB4 := hB4.below hE
    replace hB6 := hB6.below hE
    replace hW := btr hW hE
    replace hEc := btr hEc hE
    replace hJc := btr hJc hE
    clear hE
    refine s_two 7 12 (by kernel_rfl) ?_ ?_
    ·refine p_eff rfl hf trivial rfl rfl (Ef.mono (ef_call (vs := [.agg #[.int .i64 q.rows, .int .i64 q.cols, .slice Ab q.cells.length cb], .int .i64 (k : Int), .int .i64 (j : Int)]) hf rfl ff_196 (F196 _ q Ab cb (hrb.below' hW).top k j hbo (by omega) hj)) (fun _ _ h => ⟨fun _ => by obtain ⟨rfl, hE⟩ := h; exact hE, h⟩)) ?_; rintro a _ w13 ⟨rfl, hE⟩ hf
     replace hBa := hBa.below hE
     replace hBb := hBb.below hE
     replace hB4 := hB4.below hE
     replace hB6 := hB6.below hE
     replace hW := btr hW hE
     replace hEc := btr hEc hE
     replace hJc := btr hJc hE
     clear hE
     refine s_two 8 12 (by kernel_rfl) ?_ ?_
     ·refine p_eff rfl hf trivial rfl rfl (Ef.mono (ef_call (vs := [.agg #[.int .i64 ((p.at i k).num.a), .int .i64 ((p.at i k).num.b), .int .i64 ((p.at i k).num.c), .int .i64 ((p.at i k).num.d), .int .i64 ((p.at i k).exp)], .agg #[.int .i64 ((q.at k j).num.a), .int .i64 ((q.at k j).num.b), .int .i64 ((q.at k j).num.c), .int .i64 ((q.at k j).num.d), .int .i64 ((q.at k j).exp)]]) hf rfl ff_195 (F195 _ (p.at i k) (q.at k j))) (fun _ _ h => ⟨fun _ => by obtain ⟨rfl, hE⟩ := h; exact hE, h⟩)) ?_; rintro a _ w14 ⟨rfl, hE⟩ hf
      replace hBa := hBa.below hE
      replace hBb := hBb.below hE
      replace hB4 := hB4.below hE
      replace hB6 := hB6.below hE
      replace hW := btr hW hE
      replace hEc := btr hEc hE
      replace hJc := btr hJc hE
      clear hE
      refine s_e0 9 rfl (by kernel_rfl) hf rfl (fun _ => ev_move hf rfl) ?_; intro a hf
      refine s_e0 10 rfl (by kernel_rfl) hf rfl (fun _ => ev_extract (vs := [.agg #[.int .i64 (((dMulI (p.at i k) (q.at k j)).getD dZ).num.a), .int .i64 (((dMulI (p.at i k) (q.at k j)).getD dZ).num.b), .int .i64 (((dMulI (p.at i k) (q.at k j)).getD dZ).num.c), .int .i64 (((dMulI (p.at i k) (q.at k j)).getD dZ).num.d), .int .i64 (((dMulI (p.at i k) (q.at k j)).getD dZ).exp)], .bool ((dMulI (p.at i k) (q.at k j)).isSome)]) hf rfl rfl) ?_; intro a hf
      refine s_e0 11 rfl (by kernel_rfl) hf rfl (fun _ => ev_extract (vs := [.agg #[.int .i64 (((dMulI (p.at i k) (q.at k j)).getD dZ).num.a), .int .i64 (((dMulI (p.at i k) (q.at k j)).getD dZ).num.b), .int .i64 (((dMulI (p.at i k) (q.at k j)).getD dZ).num.c), .int .i64 (((dMulI (p.at i k) (q.at k j)).getD dZ).num.d), .int .i64 (((dMulI (p.at i k) (q.at k j)).getD dZ).exp)], .bool ((dMulI (p.at i k) (q.at k j)).isSome)]) hf rfl rfl) ?_; intro a hf
      refine s_one 12 (by kernel_rfl) ?_
      refine p_eff rfl hf trivial rfl rfl (Ef.mono (ef_alloc (zs := [.int .i64 0, .int .i64 0, .int .i64 0, .int .i64 0, .int .i64 0]) z_189 rfl) (fun _ _ h => ⟨fun _ => by obtain ⟨_, _, _, hE, _⟩ := h; exact hE, h⟩)) ?_; rintro a _ w15 ⟨b21, rfl, hl21, hE, hB21⟩ hf
      have hne4_21 : b4 ≠ b21 := by have := hB4.lt; omega
      have hne6_21 : b6 ≠ b21 := by have := hB6.lt; omega
      have hlo21 := Nat.le_trans hW.size hl21
      have hlc21 := Nat.le_trans hEc.size hl21
      have hlj21 := Nat.le_trans hJc.size hl21
      have haw1_21 := (hra.below' hW).away hl21
      have haw2_21 := (hrb.below' hW).away hl21
      replace hBa := hBa.below hE
      replace hBb := hBb.below hE
      replace hB4 := hB4.below hE
      replace hB6 := hB6.below hE
      replace hW := btr hW hE
      replace hEc := btr hEc hE
      replace hJc := btr hJc hE
      clear hE
      exact hJ15 _ _ _ rfl ⟨b21, hf.sub ⟨rfl, rfl, rfl, rfl, rfl, rfl, rfl, rfl, rfl, rfl, rfl, trivial⟩, hlo21, hB21, hne4_21, hne6_21, hlj21, hlc21, haw1_21, haw2_21, hJc⟩
     refine p_eff rfl hf trivial rfl rfl (Ef.mono (ef_alloc (zs := [.int .i64 0, .int .i64 0, .int .i64 0, .int .i64 0, .int .i64 0]) z_189 rfl) (fun _ _ h => ⟨fun _ => by obtain ⟨_, _, _, hE, _⟩ := h; exact hE, h⟩)) ?_; rintro a _ w16 ⟨b22, rfl, hl22, hE, hB22⟩ hf
     have hne4_22 : b4 ≠ b22 := by have := hB4.lt; omega
     have hne6_22 : b6 ≠ b22 := by have := hB6.lt; omega
     have hlo22 := Nat.le_trans hW.size hl22
     have hlc22 := Nat.le_trans hEc.size hl22
     have hlj22 := Nat.le_trans hJc.size hl22
     have haw1_22 := (hra.below' hW).away hl22
     have haw2_22 := (hrb.below' hW).away hl22
     replace hBa := hBa.below hE
     replace hBb := hBb.below hE
     replace hB4 := hB4.below hE
     replace hB6 := hB6.below hE
     replace hW := btr hW hE
     replace hEc := btr hEc hE
     replace hJc := btr hJc hE
     clear hE
     exact hJ17 _ _ _ rfl ⟨b22, hf.sub ⟨rfl, rfl, rfl, rfl, rfl, rfl, rfl, rfl, rfl, rfl, rfl, trivial⟩, hlo22, hB22, hne4_22, hne6_22, hlj22, hlc22, haw1_22, haw2_22, hJc⟩
    refine p_eff rfl hf trivial rfl rfl (Ef.mono (ef_alloc (zs := [.int .i64 0, .int .i64 0, .int .i64 0, .int .i64 0, .int .i64 0]) z_189 rfl) (fun _ _ h => ⟨fun _ => by obtain ⟨_, _, _, hE, _⟩ := h; exact hE, h⟩)) ?_; rintro a _ w17 ⟨b23, rfl, hl23, hE, hB23⟩ hf
    have hne4_23 : b4 ≠ b23 := by have := hB4.lt; omega
    have hne6_23 : b6 ≠ b23 := by have := hB6.lt; omega
    have hlo23 := Nat.le_trans hW.size hl23
    have hlc23 := Nat.le_trans hEc.size hl23
    have hlj23 := Nat.le_trans hJc.size hl23
    have haw1_23 := (hra.below' hW).away hl23
    have haw2_23 := (hrb.below' hW).away hl23
    replace hBa := hBa.below hE
    replace hBb := hBb.below hE
    replace hB4 := hB4.below hE
    replace hB6 := hB6.below hE
    replace hW := btr hW hE
    replace hEc := btr hEc hE
    replace hJc := btr hJc hE
    clear hE
    exact hJ19 _ _ _ rfl ⟨b23, hf.sub ⟨rfl, rfl, rfl, rfl, rfl, rfl, rfl, rfl, rfl, rfl, rfl, rfl, rfl, trivial⟩, hlo23, hB23, hne4_23, hne6_23, hlj23, hlc23, haw1_23, haw2_23, hJc⟩
   refine p_eff rfl hf trivial rfl rfl (Ef.mono (ef_alloc (zs := [.int .i64 0, .int .i64 0, .int .i64 0, .int .i64 0, .int .i64 0]) z_189 rfl) (fun _ _ h => ⟨fun _ => by obtain ⟨_, _, _, hE, _⟩ := h; exact hE, h⟩)) ?_; rintro a _ w18 ⟨b24, rfl, hl24, hE, hB24⟩ hf
   have hne4_24 : b4 ≠ b24 := by have := hB4.lt; omega
   have hne6_24 : b6 ≠ b24 := by have := hB6.lt; omega
   have hlo24 := Nat.le_trans hW.size hl24
   have hlc24 := Nat.le_trans hEc.size hl24
   have hlj24 := Nat.le_trans hJc.size hl24
   have haw1_24 := (hra.below' hW).away hl24
   have haw2_24 := (hrb.below' hW).away hl24
   replace hBa := hBa.below hE
   replace hBb := hBb.below hE
   replace hB4 := hB4.below hE
   replace hB6 := hB6.below hE
   replace hW := btr hW hE
   replace hEc := btr hEc hE
   replace hJc := btr hJc hE
   clear hE
   refine s_one 3 (by kernel_rfl) ?_
   refine p_eff rfl hf trivial rfl rfl (Ef.mono (ef_call (vs := [.agg #[.int .i64 p.rows, .int .i64 p.cols, .slice Aa p.cells.length ca], .int .i64 (i : Int), .int .i64 (k : Int)]) hf rfl ff_196 (F196 _ p Aa ca (hra.below' hW).top i k hao hi (by omega))) (fun _ _ h => ⟨fun _ => by obtain ⟨rfl, hE⟩ := h; exact hE, h⟩)) ?_; rintro a _ w19 ⟨rfl, hE⟩ hf
   replace hBa := hBa.below hE
   replace hBb := hBb.below hE
   replace hB4 := hB4.below hE
   replace hB6 := hB6.below hE
   replace hB24 := hB24.below hE
   replace hW := btr hW hE
   replace hEc := btr hEc hE
   replace hJc := btr hJc hE
   clear hE
   exact hJ19 _ _ _ rfl ⟨b24, hf.sub ⟨rfl, rfl, rfl, rfl, rfl, rfl, rfl, rfl, rfl, rfl, rfl, rfl, rfl, trivial⟩, hlo24, hB24, hne4_24, hne6_24, hlj24, hlc24, haw1_24, haw2_24, hJc⟩
  rintro a w20 ⟨b15, hf, hlo15, hB15, hne4_15, hne6_15, hE⟩
  replace hBa := hBa.below hE
  replace hBb := hBb.below hE
  replace hB4 := hB4.below hE
  replace hB6 := hB6.below hE
  replace hW := btr hW hE
  clear hE
  refine hK14 _ _ ?_; try clear hK14 K14
  refine wp_seq_k ?_; intro K25 hK25
  refine wp_region_lit ?_
  refine l_e hf rfl (ev_loadN (l := [.int .i64 sum.num.a, .int .i64 sum.num.b, .int .i64 sum.num.c, .int .i64 sum.num.d, .int .i64 sum.exp]) hf rfl tN_189 (hB6.at 0) rfl) ?_; intro a hf
  refine l_e hf rfl (ev_loadN (l := [.int .i64 (((dMulI (p.at i k) (q.at k j)).getD dZ).num.a), .int .i64 (((dMulI (p.at i k) (q.at k j)).getD dZ).num.b), .int .i64 (((dMulI (p.at i k) (q.at k j)).getD dZ).num.c), .int .i64 (((dMulI (p.at i k) (q.at k j)).getD dZ).num.d), .int .i64 (((dMulI (p.at i k) (q.at k j)).getD dZ).exp)]) hf rfl tN_189 (hB15.at 0) rfl) ?_; intro a hf
  refine l_f hf rfl (ef_call (vs := [.agg #[.int .i64 sum.num.a, .int .i64 sum.num.b, .int .i64 sum.num.c, .int .i64 sum.num.d, .int .i64 sum.exp], .agg #[.int .i64 (((dMulI (p.at i k) (q.at k j)).getD dZ).num.a), .int .i64 (((dMulI (p.at i k) (q.at k j)).getD dZ).num.b), .int .i64 (((dMulI (p.at i k) (q.at k j)).getD dZ).num.c), .int .i64 (((dMulI (p.at i k) (q.at k j)).getD dZ).num.d), .int .i64 (((dMulI (p.at i k) (q.at k j)).getD dZ).exp)]]) hf rfl ff_223 (F223 _ sum ((dMulI (p.at i k) (q.at k j)).getD dZ))) ?_; rintro a _ w21 ⟨rfl, hE⟩ hf
  replace hBa := hBa.below hE
  replace hBb := hBb.below hE
  replace hB4 := hB4.below hE
  replace hB6 := hB6.below hE
  replace hB15 := hB15.below hE
  replace hW := btr hW hE
  clear hE
  refine l_mv hf rfl rfl ?_; intro a hf
  refine l_e hf rfl (ev_extract (vs := [.agg #[.int .i64 (((dAddI sum ((dMulI (p.at i k) (q.at k j)).getD dZ)).getD dZ).num.a), .int .i64 (((dAddI sum ((dMulI (p.at i k) (q.at k j)).getD dZ)).getD dZ).num.b), .int .i64 (((dAddI sum ((dMulI (p.at i k) (q.at k j)).getD dZ)).getD dZ).num.c), .int .i64 (((dAddI sum ((dMulI (p.at i k) (q.at k j)).getD dZ)).getD dZ).num.d), .int .i64 (((dAddI sum ((dMulI (p.at i k) (q.at k j)).getD dZ)).getD dZ).exp)], .bool ((dAddI sum ((dMulI (p.at i k) (q.at k j)).getD dZ)).isSome)]) hf rfl rfl) ?_; intro a hf
  refine l_e hf rfl (ev_extract (vs := [.agg #[.int .i64 (((dAddI sum ((dMulI (p.at i k) (q.at k j)).getD dZ)).getD dZ).num.a), .int .i64 (((dAddI sum ((dMulI (p.at i k) (q.at k j)).getD dZ)).getD dZ).num.b), .int .i64 (((dAddI sum ((dMulI (p.at i k) (q.at k j)).getD dZ)).getD dZ).num.c), .int .i64 (((dAddI sum ((dMulI (p.at i k) (q.at k j)).getD dZ)).getD dZ).num.d), .int .i64 (((dAddI sum ((dMulI (p.at i k) (q.at k j)).getD dZ)).getD dZ).exp)], .bool ((dAddI sum ((dMulI (p.at i k) (q.at k j)).getD dZ)).isSome)]) hf rfl rfl) ?_; intro a hf
  refine l_f hf rfl (ef_alloc (zs := [.int .i64 0, .int .i64 0, .int .i64 0, .int .i64 0, .int .i64 0]) z_189 rfl) ?_; rintro a _ w22 ⟨b26, rfl, hl26, hE, hB26⟩ hf
  have hne4_26 : b4 ≠ b26 := by have := hB4.lt; omega
  have hne6_26 : b6 ≠ b26 := by have := hB6.lt; omega
  have hne15_26 : b15 ≠ b26 := by have := hB15.lt; omega
  have hlo26 := Nat.le_trans hW.size hl26
  have haw1_26 := (hra.below' hW).away hl26
  have haw2_26 := (hrb.below' hW).away hl26
  replace hBa := hBa.below hE
  replace hBb := hBb.below hE
  replace hB4 := hB4.below hE
  replace hB6 := hB6.below hE
  replace hB15 := hB15.below hE
  replace hW := btr hW hE
  clear hE
  refine l_f0 hf (ef_store (vs := [.int .i64 (((dAddI sum ((dMulI (p.at i k) (q.at k j)).getD dZ)).getD dZ).num.a), .int .i64 (((dAddI sum ((dMulI (p.at i k) (q.at k j)).getD dZ)).getD dZ).num.b), .int .i64 (((dAddI sum ((dMulI (p.at i k) (q.at k j)).getD dZ)).getD dZ).num.c), .int .i64 (((dAddI sum ((dMulI (p.at i k) (q.at k j)).getD dZ)).getD dZ).num.d), .int .i64 (((dAddI sum ((dMulI (p.at i k) (q.at k j)).getD dZ)).getD dZ).exp)]) (l' := [.int .i64 (((dAddI sum ((dMulI (p.at i k) (q.at k j)).getD dZ)).getD dZ).num.a), .int .i64 (((dAddI sum ((dMulI (p.at i k) (q.at k j)).getD dZ)).getD dZ).num.b), .int .i64 (((dAddI sum ((dMulI (p.at i k) (q.at k j)).getD dZ)).getD dZ).num.c), .int .i64 (((dAddI sum ((dMulI (p.at i k) (q.at k j)).getD dZ)).getD dZ).num.d), .int .i64 (((dAddI sum ((dMulI (p.at i k) (q.at k j)).getD dZ)).getD dZ).exp)]) hf rfl rfl sz_189 hB26 rfl rfl rfl rfl rfl) ?_; rintro a _ w23 ⟨ho, hb⟩ hf
  have hold := hB26
  replace hBa := hBa.only ho (Blk.ne hBa hold rfl)
  replace hBb := hBb.only ho (Blk.ne hBb hold rfl)
  replace hB4 := hB4.only ho (by omega)
  replace hB6 := hB6.only ho (by omega)
  replace hB15 := hB15.only ho (by omega)
  replace hW := Below.only hW ho hlo26
  clear hold
  have hB26 := hb
  clear hb ho
  refine l_as hf rfl rfl ?_; intro a hf
  refine wpList_nil ?_
  refine hK25 _ _ ?_; try clear hK25 K25
  refine wp_seq_k ?_; intro K27 hK27
  refine wp_seq_k ?_; intro K28 hK28
  refine c_cut (fun a w => Fr a 48 [(0, .int .i64 (i : Int)), (1, .int .i64 (j : Int)), (2, .pointer (some ⟨ba, 0, none⟩)), (3, .pointer (some ⟨bb, 0, none⟩)), (6, .pointer (some ⟨b4, 0, none⟩)), (8, .pointer (some ⟨b6, 0, none⟩)), (12, .pointer (some ⟨b26, 0, none⟩)), (16, .int .i64 p.cols), (17, .int .i64 (k : Int)), (43, .bool ((!((dMulI (p.at i k) (q.at k j)).isSome)) || (!((dAddI sum ((dMulI (p.at i k) (q.at k j)).getD dZ)).isSome))))] ∧ w23 = w) ?_ ?_
  ·refine wp_region_lit ?_
   refine l_mv hf rfl rfl ?_; intro a hf
   refine l_e hf rfl (ev_not hf rfl) ?_; intro a hf
   refine l_mv hf rfl rfl ?_; intro a hf
   refine g_split hf (t := 40) rfl (fun hg29 => ?_) (fun hg29 => ?_)
   ·refine l_pass hf ⟨_, _, rfl, rfl, hg29⟩ rfl rfl ?_; intro a hf
    refine l_pass hf ⟨_, _, rfl, rfl, hg29⟩ rfl rfl ?_; intro a hf
    refine l_e hf rfl (ev_pickT hf rfl hg29 rfl) ?_; intro a hf
    refine wpList_nil ?_
    exact ⟨hf.sub ⟨rfl, rfl, rfl, rfl, rfl, rfl, rfl, rfl, rfl, look_bool rfl (by first | rfl | (simp only [hc11b, hg29, Bool.true_and, Bool.false_and, Bool.true_or, Bool.false_or]; done) | simp [hc11b, hg29]), trivial⟩, rfl⟩
   refine l_ev hf ⟨_, _, rfl, rfl, hg29⟩ rfl rfl (ev_move hf rfl) ?_; intro a hf
   refine l_ev hf ⟨_, _, rfl, rfl, hg29⟩ rfl rfl (ev_not hf rfl) ?_; intro a hf
   refine l_e hf rfl (ev_pickF hf rfl hg29 rfl) ?_; intro a hf
   refine wpList_nil ?_
   exact ⟨hf.sub ⟨rfl, rfl, rfl, rfl, rfl, rfl, rfl, rfl, rfl, look_bool rfl (by first | rfl | (simp only [hc11b, hg29, Bool.true_and, Bool.false_and, Bool.true_or, Bool.false_or]; done) | simp [hc11b, hg29]), trivial⟩, rfl⟩
  rintro a _ ⟨hf, rfl⟩
  refine hK28 _ _ ?_; try clear hK28 K28
  refine c_if hf rfl (fun hc30 => ?_) (fun hc30 => ?_)
  ·have hc30b := hc30
   have hn := or2_false hc30
   have hn2 : dotI p q i j (k + 1) = none := by rw [dotI, hs]; simp only [Option.bind_some]; revert hn; cases dMulI (p.at i k) (q.at k j) <;> simp
   have hn3 := dotI_none hn2 p.cols.toNat (by omega)
   refine wp_seq_k ?_; intro K31 hK31
   refine wp_region_lit ?_
   refine l_e hf rfl (ev_build (ps := []) (cs := [.int .i64 0, .int .i64 0, .int .i64 0, .int .i64 0, .int .i64 0]) hf rfl (fun _ => by first | rfl | kernel_rfl)) ?_; intro a hf
   refine l_f0 hf (ef_store (vs := [.int .i64 0, .int .i64 0, .int .i64 0, .int .i64 0, .int .i64 0]) (l' := [.int .i64 0, .int .i64 0, .int .i64 0, .int .i64 0, .int .i64 0]) hf rfl rfl sz_189 hB4 rfl rfl rfl rfl rfl) ?_; rintro a _ w24 ⟨ho, hb⟩ hf
   have hold := hB4
   replace hBa := hBa.only ho (Blk.ne hBa hold rfl)
   replace hBb := hBb.only ho (Blk.ne hBb hold rfl)
   replace hB6 := hB6.only ho (by omega)
   replace hB26 := hB26.only ho (by omega)
   replace hW := Below.only hW ho hlo4
   clear hold
   have hB4 := hb
   clear hb ho
   refine l_as hf rfl rfl ?_; intro a hf
   refine wpList_nil ?_
   refine hK31 _ _ ?_; try clear hK31 K31
   refine wp_ret ?_
   refine x_retS ?_
   refine x_retB ?_
   refine x_retS ?_
   refine x_retS ?_
   refine x_retB ?_
   refine x_retS ?_
   refine c_ret hf (res2 hf rfl (ResV.cellN (l := [.int .i64 0, .int .i64 0, .int .i64 0, .int .i64 0, .int .i64 0]) rfl tN_189 (hB4.at 0) rfl) rfl) ?_
   exact ⟨by rw [hn3]; rfl, hW⟩
  have hc30b := hc30
  have hy := or2_true hc30
  refine wp_skip ?_
  refine hK27 _ _ ?_; try clear hK27 K27
  refine wp_region_lit ?_
  refine l_e hf rfl (ev_loadN (l := [.int .i64 (((dAddI sum ((dMulI (p.at i k) (q.at k j)).getD dZ)).getD dZ).num.a), .int .i64 (((dAddI sum ((dMulI (p.at i k) (q.at k j)).getD dZ)).getD dZ).num.b), .int .i64 (((dAddI sum ((dMulI (p.at i k) (q.at k j)).getD dZ)).getD dZ).num.c), .int .i64 (((dAddI sum ((dMulI (p.at i k) (q.at k j)).getD dZ)).getD dZ).num.d), .int .i64 (((dAddI sum ((dMulI (p.at i k) (q.at k j)).getD dZ)).getD dZ).exp)]) hf rfl tN_189 (hB26.at 0) rfl) ?_; intro a hf
  refine l_f0 hf (ef_store (vs := [.int .i64 (((dAddI sum ((dMulI (p.at i k) (q.at k j)).getD dZ)).getD dZ).num.a), .int .i64 (((dAddI sum ((dMulI (p.at i k) (q.at k j)).getD dZ)).getD dZ).num.b), .int .i64 (((dAddI sum ((dMulI (p.at i k) (q.at k j)).getD dZ)).getD dZ).num.c), .int .i64 (((dAddI sum ((dMulI (p.at i k) (q.at k j)).getD dZ)).getD dZ).num.d), .int .i64 (((dAddI sum ((dMulI (p.at i k) (q.at k j)).getD dZ)).getD dZ).exp)]) (l' := [.int .i64 (((dAddI sum ((dMulI (p.at i k) (q.at k j)).getD dZ)).getD dZ).num.a), .int .i64 (((dAddI sum ((dMulI (p.at i k) (q.at k j)).getD dZ)).getD dZ).num.b), .int .i64 (((dAddI sum ((dMulI (p.at i k) (q.at k j)).getD dZ)).getD dZ).num.c), .int .i64 (((dAddI sum ((dMulI (p.at i k) (q.at k j)).getD dZ)).getD dZ).num.d), .int .i64 (((dAddI sum ((dMulI (p.at i k) (q.at k j)).getD dZ)).getD dZ).exp)]) hf rfl rfl sz_189 hB6 rfl rfl rfl rfl rfl) ?_; rintro a _ w25 ⟨ho, hb⟩ hf
  have hold := hB6
  replace hBa := hBa.only ho (Blk.ne hBa hold rfl)
  replace hBb := hBb.only ho (Blk.ne hBb hold rfl)
  replace hB4 := hB4.only ho (by omega)
  replace hB26 := hB26.only ho (by omega)
  replace hW := Below.only hW ho hlo6
  clear hold
  have hB6 := hb
  clear hb ho
  refine wpList_nil ?_
  refine x_norm ?_
  refine hK12 _ _ ?_; try clear hK12 K12
  refine wp_region_lit ?_
  refine l_e hf rfl (ev_addx hf rfl rfl (by omega) (by omega)) ?_; intro a hf
  refine l_mv hf rfl rfl ?_; intro a hf
  refine wpList_nil ?_
  refine x_thenN ?_
  exact ⟨(k + 1, ((dAddI sum ((dMulI (p.at i k) (q.at k j)).getD dZ)).getD dZ)), ⟨hf.sub ⟨rfl, rfl, rfl, rfl, rfl, rfl, rfl, rfl, trivial⟩, (by omega), (by rw [dotI, hs]; simp only [Option.bind_some]; revert hy; cases dMulI (p.at i k) (q.at k j) <;> simp; intro hy; revert hy; cases dAddI sum _ <;> simp), hBa, hBb, hB4, hB6, hW⟩, (by first | omega | (dsimp only; omega))⟩
 have hc11b := hc11
 have hc11 := of_decide_eq_false hc11
 have hk1 : k = p.cols.toNat := by omega
 refine wp_exit ?_
 refine x_exS ?_
 refine x_exS ?_
 refine x_exit ?_
 refine hK7 _ _ ?_; try clear hK7 K7
 refine wp_seq_k ?_; intro K32 hK32
 refine wp_region_lit ?_
 refine l_e hf rfl (ev_loadN (l := [.int .i64 sum.num.a, .int .i64 sum.num.b, .int .i64 sum.num.c, .int .i64 sum.num.d, .int .i64 sum.exp]) hf rfl tN_189 (hB6.at 0) rfl) ?_; intro a hf
 refine l_f0 hf (ef_store (vs := [.int .i64 sum.num.a, .int .i64 sum.num.b, .int .i64 sum.num.c, .int .i64 sum.num.d, .int .i64 sum.exp]) (l' := [.int .i64 sum.num.a, .int .i64 sum.num.b, .int .i64 sum.num.c, .int .i64 sum.num.d, .int .i64 sum.exp]) hf rfl rfl sz_189 hB4 rfl rfl rfl rfl rfl) ?_; rintro a _ w26 ⟨ho, hb⟩ hf
 have hold := hB4
 replace hBa := hBa.only ho (Blk.ne hBa hold rfl)
 replace hBb := hBb.only ho (Blk.ne hBb hold rfl)
 replace hB6 := hB6.only ho (by omega)
 replace hW := Below.only hW ho hlo4
 clear hold
 have hB4 := hb
 clear hb ho
 refine l_as hf rfl rfl ?_; intro a hf
 refine wpList_nil ?_
 refine hK32 _ _ ?_; try clear hK32 K32
 refine wp_ret ?_
 refine c_ret hf (res2 hf rfl (ResV.cellN (l := [.int .i64 sum.num.a, .int .i64 sum.num.b, .int .i64 sum.num.c, .int .i64 sum.num.d, .int .i64 sum.exp]) rfl tN_189 (hB4.at 0) rfl) rfl) ?_
 exact ⟨by rw [← hk1, hs]; rfl, hW⟩
end Go.Proofs.YtfgnmflfiobkmaaGreat
set_option maxRecDepth 4000
namespace Go.Proofs.YtfgnmflfiobkmaaGreat
open Go.RowKit
theorem F189 (w0 : World) (p : Mx) (Ap : Option Addr) (cp : Nat) (hr_p : Rd w0 w0.heap.size 189 encD Ap p.cells) (q : Mx) (Aq : Option Addr) (cq : Nat) (hr_q : Rd w0 w0.heap.size 189 encD Aq q.cells) (hla : p.cells.length ≤ 2305843009213693951) (hlb : q.cells.length ≤ 2305843009213693951) : Ret Tryz.prog 189 [.agg #[.int .i64 p.rows, .int .i64 p.cols, .slice Ap p.cells.length cp], .agg #[.int .i64 q.rows, .int .i64 q.cols, .slice Aq q.cells.length cq]] w0 (fun v w => ∃ A c, v = .tuple #[mV A c ((mulI p q).getD mZ), .bool (mulI p q).isSome] ∧ Own w w0.heap.size 189 5 encD A c ((mulI p q).getD mZ).cells ∧ Below w0.heap.size w0 w) := by
 refine enter Tryz.func189 rfl 30 rfl rfl ?_
 intro a hf
 have hW : Below w0.heap.size w0 w0 := Below.refl _ _
 refine wp_seq_k ?_; intro K3 hK3
 refine wp_region_lit ?_
 refine l_f hf rfl (ef_box (zs := [.int .i64 p.rows, .int .i64 p.cols, .slice Ap p.cells.length cp]) hf rfl rfl) ?_; rintro a _ w1 ⟨b4, rfl, hl4, hE, hB4⟩ hf
 have hlo4 := Nat.le_trans hW.size hl4
 replace hW := btr hW hE
 clear hE
 refine l_f hf rfl (ef_box (zs := [.int .i64 q.rows, .int .i64 q.cols, .slice Aq q.cells.length cq]) hf rfl rfl) ?_; rintro a _ w2 ⟨b5, rfl, hl5, hE, hB5⟩ hf
 have hne4_5 : b4 ≠ b5 := by have := hB4.lt; omega
 have hlo5 := Nat.le_trans hW.size hl5
 replace hB4 := hB4.below hE
 replace hW := btr hW hE
 clear hE
 refine l_f hf rfl (ef_alloc (zs := [.int .i64 0, .int .i64 0, .slice none 0 0]) z_141 rfl) ?_; rintro a _ w3 ⟨b7, rfl, hl7, hE, hB7⟩ hf
 have hne4_7 : b4 ≠ b7 := by have := hB4.lt; omega
 have hne5_7 : b5 ≠ b7 := by have := hB5.lt; omega
 have hlo7 := Nat.le_trans hW.size hl7
 replace hB4 := hB4.below hE
 replace hB5 := hB5.below hE
 replace hW := btr hW hE
 clear hE
 refine l_as hf rfl rfl ?_; intro a hf
 refine wpList_nil ?_
 refine hK3 _ _ ?_; try clear hK3 K3
 refine wp_seq_k ?_; intro K8 hK8
 refine wp_seq_k ?_; intro K9 hK9
 refine c_cut (fun a w => Fr a 30 [(2, .pointer (some ⟨b4, 0, none⟩)), (3, .pointer (some ⟨b5, 0, none⟩)), (4, .pointer (some ⟨b7, 0, none⟩)), (20, .bool (((!(mOk p)) || (!(mOk q))) || (p.cols != q.rows)))] ∧ Below w3.heap.size w3 w) ?_ ?_
 ·have hEc : Below w3.heap.size w3 w3 := Below.refl _ _
  refine wp_region_lit ?_
  refine l_e hf rfl (ev_loadN (l := [.int .i64 p.rows, .int .i64 p.cols, .slice Ap p.cells.length cp]) hf rfl tN_141 (hB4.at 0) rfl) ?_; intro a hf
  refine l_f hf rfl (ef_call (vs := [.agg #[.int .i64 p.rows, .int .i64 p.cols, .slice Ap p.cells.length cp]]) hf rfl ff_138 (F138 _ p Ap cp (hr_p.below' hW).top hla)) ?_; rintro a _ w4 ⟨rfl, hE⟩ hf
  replace hB4 := hB4.below hE
  replace hB5 := hB5.below hE
  replace hB7 := hB7.below hE
  replace hW := btr hW hE
  replace hEc := btr hEc hE
  clear hE
  refine l_e hf rfl (ev_not hf rfl) ?_; intro a hf
  refine l_mv hf rfl rfl ?_; intro a hf
  refine g_split hf (t := 9) rfl (fun hg10 => ?_) (fun hg10 => ?_)
  ·refine l_pass hf ⟨_, _, rfl, rfl, hg10⟩ rfl rfl ?_; intro a hf
   refine l_pass hf ⟨_, _, rfl, rfl, hg10⟩ rfl rfl ?_; intro a hf
   refine l_pass hf ⟨_, _, rfl, rfl, hg10⟩ rfl rfl ?_; intro a hf
   refine l_e hf rfl (ev_pickT hf rfl hg10 rfl) ?_; intro a hf
   refine l_mv hf rfl rfl ?_; intro a hf
   refine l_pass hf ⟨_, _, rfl, rfl, rfl⟩ rfl rfl ?_; intro a hf
   refine l_pass hf ⟨_, _, rfl, rfl, rfl⟩ rfl rfl ?_; intro a hf
   refine l_pass hf ⟨_, _, rfl, rfl, rfl⟩ rfl rfl ?_; intro a hf
   refine l_pass hf ⟨_, _, rfl, rfl, rfl⟩ rfl rfl ?_; intro a hf
   refine l_pass hf ⟨_, _, rfl, rfl, rfl⟩ rfl rfl ?_; intro a hf
   refine l_e hf rfl (ev_pickT hf rfl rfl rfl) ?_; intro a hf
   refine wpList_nil ?_
   have hEE : Below w3.heap.size w3 w4 := hEc
   exact ⟨hf.sub ⟨rfl, rfl, rfl, look_bool rfl (by first | rfl | (simp only [hg10, Bool.true_and, Bool.false_and, Bool.true_or, Bool.false_or]; done) | simp [hg10]), trivial⟩, hEE⟩
  refine l_ev hf ⟨_, _, rfl, rfl, hg10⟩ rfl rfl (ev_loadN (l := [.int .i64 q.rows, .int .i64 q.cols, .slice Aq q.cells.length cq]) hf rfl tN_141 (hB5.at 0) rfl) ?_; intro a hf
  refine l_eff hf ⟨_, _, rfl, rfl, hg10⟩ rfl rfl (ef_call (vs := [.agg #[.int .i64 q.rows, .int .i64 q.cols, .slice Aq q.cells.length cq]]) hf rfl ff_138 (F138 _ q Aq cq (hr_q.below' hW).top hlb)) ?_; rintro a _ w5 ⟨rfl, hE⟩ hf
  replace hB4 := hB4.below hE
  replace hB5 := hB5.below hE
  replace hB7 := hB7.below hE
  replace hW := btr hW hE
  replace hEc := btr hEc hE
  clear hE
  refine l_ev hf ⟨_, _, rfl, rfl, hg10⟩ rfl rfl (ev_not hf rfl) ?_; intro a hf
  refine l_e hf rfl (ev_pickF hf rfl hg10 rfl) ?_; intro a hf
  refine l_mv hf rfl rfl ?_; intro a hf
  refine g_split hf (t := 14) rfl (fun hg11 => ?_) (fun hg11 => ?_)
  ·refine l_pass hf ⟨_, _, rfl, rfl, hg11⟩ rfl rfl ?_; intro a hf
   refine l_pass hf ⟨_, _, rfl, rfl, hg11⟩ rfl rfl ?_; intro a hf
   refine l_pass hf ⟨_, _, rfl, rfl, hg11⟩ rfl rfl ?_; intro a hf
   refine l_pass hf ⟨_, _, rfl, rfl, hg11⟩ rfl rfl ?_; intro a hf
   refine l_pass hf ⟨_, _, rfl, rfl, hg11⟩ rfl rfl ?_; intro a hf
   refine l_e hf rfl (ev_pickT hf rfl hg11 rfl) ?_; intro a hf
   refine wpList_nil ?_
   have hEE : Below w3.heap.size w3 w5 := hEc
   exact ⟨hf.sub ⟨rfl, rfl, rfl, look_bool rfl (by first | rfl | (simp only [hg10, hg11, Bool.true_and, Bool.false_and, Bool.true_or, Bool.false_or]; done) | simp [hg10, hg11]), trivial⟩, hEE⟩
  refine l_ev hf ⟨_, _, rfl, rfl, hg11⟩ rfl rfl (ev_fieldB hf rfl fd_141_1 (m := 1) rfl) ?_; intro a hf
  refine l_ev hf ⟨_, _, rfl, rfl, hg11⟩ rfl rfl (ev_load1 hf rfl t1_3 (hB4.at 1)) ?_; intro a hf
  refine l_ev hf ⟨_, _, rfl, rfl, hg11⟩ rfl rfl (ev_fieldB hf rfl fd_141_0 (m := 0) rfl) ?_; intro a hf
  refine l_ev hf ⟨_, _, rfl, rfl, hg11⟩ rfl rfl (ev_load1 hf rfl t1_3 (hB5.at 0)) ?_; intro a hf
  refine l_ev hf ⟨_, _, rfl, rfl, hg11⟩ rfl rfl (ev_neq hf rfl rfl) ?_; intro a hf
  refine l_e hf rfl (ev_pickF hf rfl hg11 rfl) ?_; intro a hf
  refine wpList_nil ?_
  have hEE : Below w3.heap.size w3 w5 := hEc
  exact ⟨hf.sub ⟨rfl, rfl, rfl, look_bool rfl (by first | rfl | (simp only [hg10, hg11, Bool.true_and, Bool.false_and, Bool.true_or, Bool.false_or]; done) | simp [hg10, hg11]), trivial⟩, hEE⟩
 rintro a w6 ⟨hf, hE⟩
 replace hB4 := hB4.below hE
 replace hB5 := hB5.below hE
 replace hB7 := hB7.below hE
 replace hW := btr hW hE
 clear hE
 refine hK9 _ _ ?_; try clear hK9 K9
 refine c_if hf rfl (fun hc12 => ?_) (fun hc12 => ?_)
 ·have hc12b := hc12
  have hn : (mOk p && mOk q && p.cols == q.rows) = false := by revert hc12; cases mOk p <;> cases mOk q <;> simp
  refine wp_seq_k ?_; intro K13 hK13
  refine wp_region_lit ?_
  refine l_e hf rfl (ev_build (ps := []) (cs := [.int .i64 0, .int .i64 0, .slice none 0 0]) hf rfl (fun _ => by first | rfl | kernel_rfl)) ?_; intro a hf
  refine l_f0 hf (ef_store (vs := [.int .i64 0, .int .i64 0, .slice none 0 0]) (l' := [.int .i64 0, .int .i64 0, .slice none 0 0]) hf rfl rfl sz_141 hB7 rfl rfl rfl rfl rfl) ?_; rintro a _ w7 ⟨ho, hb⟩ hf
  have hold := hB7
  replace hB4 := hB4.only ho (by omega)
  replace hB5 := hB5.only ho (by omega)
  replace hW := Below.only hW ho hlo7
  clear hold
  have hB7 := hb
  clear hb ho
  refine l_as hf rfl rfl ?_; intro a hf
  refine wpList_nil ?_
  refine hK13 _ _ ?_; try clear hK13 K13
  refine wp_ret ?_
  refine x_retS ?_
  refine c_ret hf (res2 hf rfl (ResV.cellN (l := [.int .i64 0, .int .i64 0, .slice none 0 0]) rfl tN_141 (hB7.at 0) rfl) rfl) ?_
  exact ⟨none, 0, by rw [mulI, hn]; rfl, by rw [mulI, hn]; exact (Own.nil _ _ _ _ _), hW⟩
 have hc12b := hc12
 have hy : (mOk p && mOk q && p.cols == q.rows) = true := by revert hc12; cases mOk p <;> cases mOk q <;> simp
 have hy3 := and3 hy
 have hab : p.cols = q.rows := by simpa using hy3.2.2
 refine wp_skip ?_
 refine hK8 _ _ ?_; try clear hK8 K8
 refine wp_seq_k ?_; intro K15 hK15
 refine wp_region_lit ?_
 refine l_e hf rfl (ev_fieldB hf rfl fd_141_0 (m := 0) rfl) ?_; intro a hf
 refine l_e hf rfl (ev_load1 hf rfl t1_3 (hB4.at 0)) ?_; intro a hf
 refine l_e hf rfl (ev_fieldB hf rfl fd_141_1 (m := 1) rfl) ?_; intro a hf
 refine l_e hf rfl (ev_load1 hf rfl t1_3 (hB5.at 1)) ?_; intro a hf
 refine l_e hf rfl (ev_makeFunc (vs := [.pointer (some ⟨b4, 0, none⟩), .pointer (some ⟨b5, 0, none⟩)]) hf rfl) ?_; intro a hf
 refine l_f hf rfl (ef_call (vs := [.int .i64 p.rows, .int .i64 q.cols, .func (.func 222) #[] #[.pointer (some ⟨b4, 0, none⟩), .pointer (some ⟨b5, 0, none⟩)]]) hf rfl ff_185 (F185 _ p.rows q.cols 222 [.pointer (some ⟨b4, 0, none⟩), .pointer (some ⟨b5, 0, none⟩)] ff_222 (fun i j => dotI p q i j p.cols.toNat) (fun i j w' hi hj hE' => F222 w' p q _ _ _ _ _ _ ((hr_p.below' hW).below hE').top ((hr_q.below' hW).below hE').top (hB4.below hE') (hB5.below hE') hy3.1 hy3.2.1 hab i j hi hj))) ?_; rintro a _ w8 ⟨A16, c16, rfl, ho16, hE⟩ hf
 replace ho16 := ho16.lower hW.size
 replace hB4 := hB4.below hE
 replace hB5 := hB5.below hE
 replace hB7 := hB7.below hE
 replace hW := btr hW hE
 clear hE
 refine l_e hf rfl (ev_extract (vs := [.agg #[.int .i64 (((matOf p.rows q.cols (fun i j => dotI p q i j p.cols.toNat)).getD mZ).rows), .int .i64 (((matOf p.rows q.cols (fun i j => dotI p q i j p.cols.toNat)).getD mZ).cols), .slice A16 (((matOf p.rows q.cols (fun i j => dotI p q i j p.cols.toNat)).getD mZ).cells).length c16], .bool ((matOf p.rows q.cols (fun i j => dotI p q i j p.cols.toNat)).isSome)]) hf rfl rfl) ?_; intro a hf
 refine l_e hf rfl (ev_extract (vs := [.agg #[.int .i64 (((matOf p.rows q.cols (fun i j => dotI p q i j p.cols.toNat)).getD mZ).rows), .int .i64 (((matOf p.rows q.cols (fun i j => dotI p q i j p.cols.toNat)).getD mZ).cols), .slice A16 (((matOf p.rows q.cols (fun i j => dotI p q i j p.cols.toNat)).getD mZ).cells).length c16], .bool ((matOf p.rows q.cols (fun i j => dotI p q i j p.cols.toNat)).isSome)]) hf rfl rfl) ?_; intro a hf
 refine l_f0 hf (ef_store (vs := [.int .i64 (((matOf p.rows q.cols (fun i j => dotI p q i j p.cols.toNat)).getD mZ).rows), .int .i64 (((matOf p.rows q.cols (fun i j => dotI p q i j p.cols.toNat)).getD mZ).cols), .slice A16 (((matOf p.rows q.cols (fun i j => dotI p q i j p.cols.toNat)).getD mZ).cells).length c16]) (l' := [.int .i64 (((matOf p.rows q.cols (fun i j => dotI p q i j p.cols.toNat)).getD mZ).rows), .int .i64 (((matOf p.rows q.cols (fun i j => dotI p q i j p.cols.toNat)).getD mZ).cols), .slice A16 (((matOf p.rows q.cols (fun i j => dotI p q i j p.cols.toNat)).getD mZ).cells).length c16]) hf rfl rfl sz_141 hB7 rfl rfl rfl rfl rfl) ?_; rintro a _ w9 ⟨ho, hb⟩ hf
 have hold := hB7
 replace hB4 := hB4.only ho (by omega)
 replace hB5 := hB5.only ho (by omega)
 replace ho16 := ho16.onlyT ho hold rfl
 replace hW := Below.only hW ho hlo7
 clear hold
 have hB7 := hb
 clear hb ho
 refine l_as hf rfl rfl ?_; intro a hf
 refine wpList_nil ?_
 refine hK15 _ _ ?_; try clear hK15 K15
 refine wp_ret ?_
 refine c_ret hf (res2 hf rfl (ResV.cellN (l := [.int .i64 (((matOf p.rows q.cols (fun i j => dotI p q i j p.cols.toNat)).getD mZ).rows), .int .i64 (((matOf p.rows q.cols (fun i j => dotI p q i j p.cols.toNat)).getD mZ).cols), .slice A16 (((matOf p.rows q.cols (fun i j => dotI p q i j p.cols.toNat)).getD mZ).cells).length c16]) rfl tN_141 (hB7.at 0) rfl) rfl) ?_
 exact ⟨A16, c16, by rw [mulI, if_pos hy], by rw [mulI, if_pos hy]; exact ho16, hW⟩
theorem F198 (w0 : World) (Ap : Option Addr) (cp : Nat) (p : List Dy) (hr_p : Rd w0 w0.heap.size 189 encD Ap p) (Aq : Option Addr) (cq : Nat) (q : List Dy) (hr_q : Rd w0 w0.heap.size 189 encD Aq q) (hln : p.length ≤ 2305843009213693951) : Ret Tryz.prog 198 [.slice Ap p.length cp, .slice Aq q.length cq] w0 (fun v w => v = .bool (decide (p = q)) ∧ Below w0.heap.size w0 w) := by
 refine enter Tryz.func198 rfl 26 rfl rfl ?_
 intro a hf
 have hW : Below w0.heap.size w0 w0 := Below.refl _ _
 refine wp_seq_k ?_; intro K3 hK3
 refine wp_region_lit ?_
 refine l_as hf rfl rfl ?_; intro a hf
 refine wpList_nil ?_
 refine hK3 _ _ ?_; try clear hK3 K3
 refine wp_seq_k ?_; intro K4 hK4
 refine wp_seq_k ?_; intro K5 hK5
 refine wp_region_lit ?_
 refine l_mv hf rfl rfl ?_; intro a hf
 refine l_e hf rfl (ev_len hf rfl sl_139) ?_; intro a hf
 refine l_mv hf rfl rfl ?_; intro a hf
 refine l_e hf rfl (ev_len hf rfl sl_139) ?_; intro a hf
 refine l_e hf rfl (ev_neq hf rfl rfl) ?_; intro a hf
 refine wpList_nil ?_
 refine hK5 _ _ ?_; try clear hK5 K5
 refine c_if hf rfl (fun hc6 => ?_) (fun hc6 => ?_)
 ·have hc6b := hc6
  have hne : ¬ p = q := by intro h9; rw [h9] at hc6; simp at hc6
  refine wp_seq_k ?_; intro K7 hK7
  refine wp_region_lit ?_
  refine l_as hf rfl rfl ?_; intro a hf
  refine wpList_nil ?_
  refine hK7 _ _ ?_; try clear hK7 K7
  refine wp_ret ?_
  refine x_retS ?_
  refine c_ret hf (res1 hf rfl rfl) ?_
  exact ⟨by simp [hne], hW⟩
 have hc6b := hc6
 have hll : p.length = q.length := by have h9 : (p.length : Int) = q.length := (by simpa using hc6); omega
 refine wp_skip ?_
 refine hK4 _ _ ?_; try clear hK4 K4
 refine wp_seq_k ?_; intro K8 hK8
 refine wp_seq_k ?_; intro K9 hK9
 refine wp_region_lit ?_
 refine l_mv hf rfl rfl ?_; intro a hf
 refine l_e hf rfl (ev_len hf rfl sl_139) ?_; intro a hf
 refine l_mv hf rfl rfl ?_; intro a hf
 refine wpList_nil ?_
 refine hK9 _ _ ?_; try clear hK9 K9
 refine wp_block ?_
 refine c_loop (σ := Nat) (fun (k : Nat) (a : Act) (w : World) => Fr a 26 [(0, .slice Ap p.length cp), (1, .slice Aq q.length cq), (12, .int .i64 (p.length : Int)), (13, .int .i64 (k : Int))] ∧ (k ≤ p.length) ∧ (p.take k = q.take k) ∧ Below w0.heap.size w0 w) (fun (k : Nat) => p.length - k) 0 ?_ ?_
 · exact ⟨hf.sub ⟨rfl, rfl, rfl, rfl, trivial⟩, (Nat.zero_le _), (by simp), hW⟩
 rintro k a w1 ⟨hf, hk, hpre, hW⟩
 refine wp_seq_k ?_; intro K10 hK10
 refine wp_region_lit ?_
 refine l_e hf rfl (ev_lss hf rfl rfl) ?_; intro a hf
 refine wpList_nil ?_
 refine hK10 _ _ ?_; try clear hK10 K10
 refine wp_seq_k ?_; intro K11 hK11
 refine c_if hf rfl (fun hc12 => ?_) (fun hc12 => ?_)
 ·have hc12b := hc12
  have hc12 := of_decide_eq_true hc12
  obtain ⟨u13, hu13⟩ := getElem_ex (l := p) (k := k) (by omega)
  obtain ⟨v9, hv9⟩ := getElem_ex (l := q) (k := k) (by omega)
  refine wp_skip ?_
  refine hK11 _ _ ?_; try clear hK11 K11
  refine wp_seq_k ?_; intro K14 hK14
  refine wp_block ?_
  refine wp_seq_k ?_; intro K15 hK15
  refine wp_region_lit ?_
  refine l_mv hf rfl rfl ?_; intro a hf
  refine l_as hf rfl rfl ?_; intro a hf
  refine wpList_nil ?_
  refine hK15 _ _ ?_; try clear hK15 K15
  refine wp_seq_k ?_; intro K16 hK16
  refine wp_draw none (fun _ => false) mixed ?_
  intro w2 hE
  replace hW := btr hW hE
  clear hE
  refine s_e0 0 rfl (by kernel_rfl) hf rfl (fun _ => ev_move hf rfl) ?_; intro a hf
  refine s_e0 1 rfl (by kernel_rfl) hf rfl (fun _ => ev_move hf rfl) ?_; intro a hf
  refine s_index (k := k) (u := u13) (enc := encD) (l := p) 2 rfl (by kernel_rfl) (by kernel_rfl) hf trivial rfl rfl rfl sl_139 sz_189 encD_len (hr_p.below' hW) hu13 rfl ?_; intro a p18 hat17 hf
  refine s_e 3 rfl (by kernel_rfl) (by kernel_rfl) hf rfl (ev_loadN (l := [.int .i64 u13.num.a, .int .i64 u13.num.b, .int .i64 u13.num.c, .int .i64 u13.num.d, .int .i64 u13.exp]) hf rfl tN_189 hat17 rfl) ?_; intro a hf
  refine s_e0 4 rfl (by kernel_rfl) hf rfl (fun _ => ev_move hf rfl) ?_; intro a hf
  refine s_e0 5 rfl (by kernel_rfl) hf rfl (fun _ => ev_move hf rfl) ?_; intro a hf
  refine s_index (k := k) (u := v9) (enc := encD) (l := q) 6 rfl (by kernel_rfl) (by kernel_rfl) hf trivial rfl rfl rfl sl_139 sz_189 encD_len (hr_q.below' hW) hv9 rfl ?_; intro a p20 hat19 hf
  refine s_e 7 rfl (by kernel_rfl) (by kernel_rfl) hf rfl (ev_loadN (l := [.int .i64 v9.num.a, .int .i64 v9.num.b, .int .i64 v9.num.c, .int .i64 v9.num.d, .int .i64 v9.exp]) hf rfl tN_189 hat19 rfl) ?_; intro a hf
  refine s_e0 8 rfl (by kernel_rfl) hf rfl (fun _ => ev_neqS hf rfl rfl gd_189 (fun w => eqD 9997 u13 v9 w)) ?_; intro a hf
  refine s_done (by kernel_rfl) ?_
  refine hK16 _ _ ?_; try clear hK16 K16
  refine c_if hf rfl (fun hc21 => ?_) (fun hc21 => ?_)
  ·have hc21b := hc21
   have hne : ¬ p = q := by rintro rfl; rw [hu13] at hv9; injection hv9 with e9; revert hc21; simp [e9]
   refine wp_seq_k ?_; intro K22 hK22
   refine wp_region_lit ?_
   refine l_as hf rfl rfl ?_; intro a hf
   refine wpList_nil ?_
   refine hK22 _ _ ?_; try clear hK22 K22
   refine wp_ret ?_
   refine x_retB ?_
   refine x_retS ?_
   refine x_retS ?_
   refine x_retB ?_
   refine x_retS ?_
   refine c_ret hf (res1 hf rfl rfl) ?_
   exact ⟨by simp [hne], hW⟩
  have hc21b := hc21
  have he9 : u13 = v9 := by revert hc21; simp
  refine wp_skip ?_
  refine x_norm ?_
  refine hK14 _ _ ?_; try clear hK14 K14
  refine wp_region_lit ?_
  refine l_e hf rfl (ev_addx hf rfl rfl (by omega) (by omega)) ?_; intro a hf
  refine l_mv hf rfl rfl ?_; intro a hf
  refine wpList_nil ?_
  refine x_thenN ?_
  exact ⟨k + 1, ⟨hf.sub ⟨rfl, rfl, rfl, rfl, trivial⟩, (by omega), (take_eq hpre hu13 hv9 he9), hW⟩, (by omega)⟩
 have hc12b := hc12
 have hc12 := of_decide_eq_false hc12
 refine wp_exit ?_
 refine x_exS ?_
 refine x_exS ?_
 refine x_exit ?_
 refine hK8 _ _ ?_; try clear hK8 K8
 refine wp_seq_k ?_; intro K23 hK23
 refine wp_region_lit ?_
 refine l_as hf rfl rfl ?_; intro a hf
 refine wpList_nil ?_
 refine hK23 _ _ ?_; try clear hK23 K23
 refine wp_ret ?_
 refine c_ret hf (res1 hf rfl rfl) ?_
 have he : p = q := by rw [List.take_of_length_le (by omega), List.take_of_length_le (by omega)] at hpre; exact hpre
 exact ⟨by simp [he], hW⟩
theorem F141 (w0 : World) (p : Mx) (Ap : Option Addr) (cp : Nat) (hr_p : Rd w0 w0.heap.size 189 encD Ap p.cells) (q : Mx) (Aq : Option Addr) (cq : Nat) (hr_q : Rd w0 w0.heap.size 189 encD Aq q.cells) (hln : p.cells.length ≤ 2305843009213693951) : Ret Tryz.prog 141 [.agg #[.int .i64 p.rows, .int .i64 p.cols, .slice Ap p.cells.length cp], .agg #[.int .i64 q.rows, .int .i64 q.cols, .slice Aq q.cells.length cq]] w0 (fun v w => v = .bool (decide (p.rows = q.rows) && decide (p.cols = q.cols) && decide (p.cells = q.cells)) ∧ Below w0.heap.size w0 w) := by
 refine enter Tryz.func141 rfl 24 rfl rfl ?_
 intro a hf
 have hW : Below w0.heap.size w0 w0 := Below.refl _ _
 refine wp_seq_k ?_; intro K3 hK3
 refine wp_region_lit ?_
 refine l_f hf rfl (ef_box (zs := [.int .i64 p.rows, .int .i64 p.cols, .slice Ap p.cells.length cp]) hf rfl rfl) ?_; rintro a _ w1 ⟨b4, rfl, hl4, hE, hB4⟩ hf
 have hlo4 := Nat.le_trans hW.size hl4
 replace hW := btr hW hE
 clear hE
 refine l_f hf rfl (ef_box (zs := [.int .i64 q.rows, .int .i64 q.cols, .slice Aq q.cells.length cq]) hf rfl rfl) ?_; rintro a _ w2 ⟨b5, rfl, hl5, hE, hB5⟩ hf
 have hne4_5 : b4 ≠ b5 := by have := hB4.lt; omega
 have hlo5 := Nat.le_trans hW.size hl5
 replace hB4 := hB4.below hE
 replace hW := btr hW hE
 clear hE
 refine l_as hf rfl rfl ?_; intro a hf
 refine wpList_nil ?_
 refine hK3 _ _ ?_; try clear hK3 K3
 refine wp_seq_k ?_; intro K6 hK6
 refine c_cut (fun a w => Fr a 24 [(4, .bool (((p.rows == q.rows) && (p.cols == q.cols)) && (decide (p.cells = q.cells))))] ∧ Below w2.heap.size w2 w) ?_ ?_
 ·have hEc : Below w2.heap.size w2 w2 := Below.refl _ _
  refine wp_region_lit ?_
  refine l_e hf rfl (ev_fieldB hf rfl fd_141_0 (m := 0) rfl) ?_; intro a hf
  refine l_e hf rfl (ev_load1 hf rfl t1_3 (hB4.at 0)) ?_; intro a hf
  refine l_e hf rfl (ev_fieldB hf rfl fd_141_0 (m := 0) rfl) ?_; intro a hf
  refine l_e hf rfl (ev_load1 hf rfl t1_3 (hB5.at 0)) ?_; intro a hf
  refine l_e hf rfl (ev_eql hf rfl rfl) ?_; intro a hf
  refine l_mv hf rfl rfl ?_; intro a hf
  refine g_split hf (t := 10) rfl (fun hg7 => ?_) (fun hg7 => ?_)
  ·refine l_ev hf ⟨_, _, rfl, rfl, hg7⟩ rfl rfl (ev_fieldB hf rfl fd_141_1 (m := 1) rfl) ?_; intro a hf
   refine l_ev hf ⟨_, _, rfl, rfl, hg7⟩ rfl rfl (ev_load1 hf rfl t1_3 (hB4.at 1)) ?_; intro a hf
   refine l_ev hf ⟨_, _, rfl, rfl, hg7⟩ rfl rfl (ev_fieldB hf rfl fd_141_1 (m := 1) rfl) ?_; intro a hf
   refine l_ev hf ⟨_, _, rfl, rfl, hg7⟩ rfl rfl (ev_load1 hf rfl t1_3 (hB5.at 1)) ?_; intro a hf
   refine l_ev hf ⟨_, _, rfl, rfl, hg7⟩ rfl rfl (ev_eql hf rfl rfl) ?_; intro a hf
   refine l_e hf rfl (ev_pickT hf rfl hg7 rfl) ?_; intro a hf
   refine l_mv hf rfl rfl ?_; intro a hf
   refine g_split hf (t := 17) rfl (fun hg8 => ?_) (fun hg8 => ?_)
   ·refine l_ev hf ⟨_, _, rfl, rfl, hg8⟩ rfl rfl (ev_fieldB hf rfl fd_141_2 (m := 2) rfl) ?_; intro a hf
    refine l_ev hf ⟨_, _, rfl, rfl, hg8⟩ rfl rfl (ev_load1 hf rfl t1_139 (hB4.at 2)) ?_; intro a hf
    refine l_ev hf ⟨_, _, rfl, rfl, hg8⟩ rfl rfl (ev_fieldB hf rfl fd_141_2 (m := 2) rfl) ?_; intro a hf
    refine l_ev hf ⟨_, _, rfl, rfl, hg8⟩ rfl rfl (ev_load1 hf rfl t1_139 (hB5.at 2)) ?_; intro a hf
    refine l_eff hf ⟨_, _, rfl, rfl, hg8⟩ rfl rfl (ef_call (vs := [.slice Ap p.cells.length cp, .slice Aq q.cells.length cq]) hf rfl ff_198 (F198 _ Ap cp p.cells (hr_p.below' hW).top Aq cq q.cells (hr_q.below' hW).top (by assumption))) ?_; rintro a _ w3 ⟨rfl, hE⟩ hf
    replace hB4 := hB4.below hE
    replace hB5 := hB5.below hE
    replace hW := btr hW hE
    replace hEc := btr hEc hE
    clear hE
    refine l_e hf rfl (ev_pickT hf rfl hg8 rfl) ?_; intro a hf
    refine l_as hf rfl rfl ?_; intro a hf
    refine wpList_nil ?_
    have hEE : Below w2.heap.size w2 w3 := hEc
    exact ⟨hf.sub ⟨look_bool rfl (by first | rfl | (simp only [hg7, hg8, Bool.true_and, Bool.false_and, Bool.true_or, Bool.false_or]; done) | simp [hg7, hg8]), trivial⟩, hEE⟩
   refine l_pass hf ⟨_, _, rfl, rfl, hg8⟩ rfl rfl ?_; intro a hf
   refine l_pass hf ⟨_, _, rfl, rfl, hg8⟩ rfl rfl ?_; intro a hf
   refine l_pass hf ⟨_, _, rfl, rfl, hg8⟩ rfl rfl ?_; intro a hf
   refine l_pass hf ⟨_, _, rfl, rfl, hg8⟩ rfl rfl ?_; intro a hf
   refine l_pass hf ⟨_, _, rfl, rfl, hg8⟩ rfl rfl ?_; intro a hf
   refine l_e hf rfl (ev_pickF hf rfl hg8 rfl) ?_; intro a hf
   refine l_as hf rfl rfl ?_; intro a hf
   refine wpList_nil ?_
   have hEE : Below w2.heap.size w2 w2 := hEc
   exact ⟨hf.sub ⟨look_bool rfl (by first | rfl | (simp only [hg7, hg8, Bool.true_and, Bool.false_and, Bool.true_or, Bool.false_or]; done) | simp [hg7, hg8]), trivial⟩, hEE⟩
  refine l_pass hf ⟨_, _, rfl, rfl, hg7⟩ rfl rfl ?_; intro a hf
  refine l_pass hf ⟨_, _, rfl, rfl, hg7⟩ rfl rfl ?_; intro a hf
  refine l_pass hf ⟨_, _, rfl, rfl, hg7⟩ rfl rfl ?_; intro a hf
  refine l_pass hf ⟨_, _, rfl, rfl, hg7⟩ rfl rfl ?_; intro a hf
  refine l_pass hf ⟨_, _, rfl, rfl, hg7⟩ rfl rfl ?_; intro a hf
  refine l_e hf rfl (ev_pickF hf rfl hg7 rfl) ?_; intro a hf
  refine l_mv hf rfl rfl ?_; intro a hf
  refine l_pass hf ⟨_, _, rfl, rfl, rfl⟩ rfl rfl ?_; intro a hf
  refine l_pass hf ⟨_, _, rfl, rfl, rfl⟩ rfl rfl ?_; intro a hf
  refine l_pass hf ⟨_, _, rfl, rfl, rfl⟩ rfl rfl ?_; intro a hf
  refine l_pass hf ⟨_, _, rfl, rfl, rfl⟩ rfl rfl ?_; intro a hf
  refine l_pass hf ⟨_, _, rfl, rfl, rfl⟩ rfl rfl ?_; intro a hf
  refine l_e hf rfl (ev_pickF hf rfl rfl rfl) ?_; intro a hf
  refine l_as hf rfl rfl ?_; intro a hf
  refine wpList_nil ?_
  have hEE : Below w2.heap.size w2 w2 := hEc
  exact ⟨hf.sub ⟨look_bool rfl (by first | rfl | (simp only [hg7, Bool.true_and, Bool.false_and, Bool.true_or, Bool.false_or]; done) | simp [hg7]), trivial⟩, hEE⟩
 rintro a w4 ⟨hf, hE⟩
 replace hB4 := hB4.below hE
 replace hB5 := hB5.below hE
 replace hW := btr hW hE
 clear hE
 refine hK6 _ _ ?_; try clear hK6 K6
 refine wp_ret ?_
 refine c_ret hf (res1 hf rfl rfl) ?_
 exact ⟨rfl, hW⟩
end Go.Proofs.YtfgnmflfiobkmaaGreat
set_option maxRecDepth 4000
namespace Go.Proofs.YtfgnmflfiobkmaaGreat
open Go.RowKit
theorem F106 (w0 : World) (n : Int) (x : Gt) : Ret Tryz.prog 106 [.int .i64 n, .agg #[.int .i64 x.k, .int .i64 x.a, .int .i64 x.b]] w0 (fun v w => v = .bool (gOk n x) ∧ Below w0.heap.size w0 w) := by
 refine enter Tryz.func106 rfl 60 rfl rfl ?_
 intro a hf
 have hW : Below w0.heap.size w0 w0 := Below.refl _ _
 refine wp_seq_k ?_; intro K1 hK1
 refine wp_region_lit ?_
 refine l_f hf rfl (ef_box (zs := [.int .i64 x.k, .int .i64 x.a, .int .i64 x.b]) hf rfl rfl) ?_; rintro a _ w1 ⟨b2, rfl, hl2, hE, hB2⟩ hf
 have hlo2 := Nat.le_trans hW.size hl2
 replace hW := btr hW hE
 clear hE
 refine l_as hf rfl rfl ?_; intro a hf
 refine wpList_nil ?_
 refine hK1 _ _ ?_; try clear hK1 K1
 refine wp_seq_k ?_; intro K3 hK3
 refine wp_block ?_
 refine wp_seq_k ?_; intro K4 hK4
 refine c_cut (fun a w => Fr a 60 [(0, .int .i64 n), (3, .pointer (some ⟨b2, 0, none⟩)), (5, .bool ((!(inR n 1 5)) || (!(inR x.k 1 12))))] ∧ w1 = w) ?_ ?_
 ·refine wp_region_lit ?_
  refine l_mv hf rfl rfl ?_; intro a hf
  refine l_f hf rfl (ef_call (vs := [.int .i64 n, .int .i64 1, .int .i64 5]) hf rfl ff_91 (F91 _ n 1 5)) ?_; rintro a _ _ ⟨rfl, rfl⟩ hf
  refine l_e hf rfl (ev_not hf rfl) ?_; intro a hf
  refine l_mv hf rfl rfl ?_; intro a hf
  refine g_split hf (t := 9) rfl (fun hg5 => ?_) (fun hg5 => ?_)
  ·refine l_pass hf ⟨_, _, rfl, rfl, hg5⟩ rfl rfl ?_; intro a hf
   refine l_pass hf ⟨_, _, rfl, rfl, hg5⟩ rfl rfl ?_; intro a hf
   refine l_pass hf ⟨_, _, rfl, rfl, hg5⟩ rfl rfl ?_; intro a hf
   refine l_pass hf ⟨_, _, rfl, rfl, hg5⟩ rfl rfl ?_; intro a hf
   refine l_e hf rfl (ev_pickT hf rfl hg5 rfl) ?_; intro a hf
   refine l_as hf rfl rfl ?_; intro a hf
   refine wpList_nil ?_
   exact ⟨hf.sub ⟨rfl, rfl, look_bool rfl (by first | rfl | (simp only [hg5, Bool.true_and, Bool.false_and, Bool.true_or, Bool.false_or]; done) | simp [hg5]), trivial⟩, rfl⟩
  refine l_ev hf ⟨_, _, rfl, rfl, hg5⟩ rfl rfl (ev_fieldB hf rfl fd_107_0 (m := 0) rfl) ?_; intro a hf
  refine l_ev hf ⟨_, _, rfl, rfl, hg5⟩ rfl rfl (ev_load1 hf rfl t1_3 (hB2.at 0)) ?_; intro a hf
  refine l_eff hf ⟨_, _, rfl, rfl, hg5⟩ rfl rfl (ef_call (vs := [.int .i64 x.k, .int .i64 1, .int .i64 12]) hf rfl ff_91 (F91 _ x.k 1 12)) ?_; rintro a _ _ ⟨rfl, rfl⟩ hf
  refine l_ev hf ⟨_, _, rfl, rfl, hg5⟩ rfl rfl (ev_not hf rfl) ?_; intro a hf
  refine l_e hf rfl (ev_pickF hf rfl hg5 rfl) ?_; intro a hf
  refine l_as hf rfl rfl ?_; intro a hf
  refine wpList_nil ?_
  exact ⟨hf.sub ⟨rfl, rfl, look_bool rfl (by first | rfl | (simp only [hg5, Bool.true_and, Bool.false_and, Bool.true_or, Bool.false_or]; done) | simp [hg5]), trivial⟩, rfl⟩
 rintro a _ ⟨hf, rfl⟩
 refine hK4 _ _ ?_; try clear hK4 K4
 refine c_if hf rfl (fun hc6 => ?_) (fun hc6 => ?_)
 ·have hc6b := hc6
  have hn := or2_false hc6
  refine wp_seq_k ?_; intro K7 hK7
  refine wp_region_lit ?_
  refine l_as hf rfl rfl ?_; intro a hf
  refine wpList_nil ?_
  refine hK7 _ _ ?_; try clear hK7 K7
  refine wp_ret ?_
  refine x_retB ?_
  refine x_retS ?_
  refine c_ret hf (res1 hf rfl rfl) ?_
  exact ⟨by rw [gOk, hn]; rfl, hW⟩
 have hc6b := hc6
 have hy := or2_true hc6
 have hy2 := (Bool.and_eq_true _ _ ▸ hy : inR n 1 5 = true ∧ inR x.k 1 12 = true)
 have hnn := inR_iff.1 hy2.1
 refine wp_seq_k ?_; intro K8 hK8
 refine wp_region_lit ?_
 refine l_e hf rfl (ev_fieldB hf rfl fd_107_0 (m := 0) rfl) ?_; intro a hf
 refine l_e hf rfl (ev_load1 hf rfl t1_3 (hB2.at 0)) ?_; intro a hf
 refine l_e hf rfl (ev_eql hf rfl rfl) ?_; intro a hf
 refine l_as hf rfl rfl ?_; intro a hf
 refine wpList_nil ?_
 refine hK8 _ _ ?_; try clear hK8 K8
 refine c_if hf rfl (fun hc9 => ?_) (fun hc9 => ?_)
 ·have hc9b := hc9
  have hk : x.k = 12 := by simpa using hc9
  refine wp_seq_k ?_; intro K10 hK10
  refine c_cut (fun a w => Fr a 60 [(4, .bool ((x.a == 0) && (x.b == 0)))] ∧ w1 = w) ?_ ?_
  ·refine wp_region_lit ?_
   refine l_e hf rfl (ev_fieldB hf rfl fd_107_1 (m := 1) rfl) ?_; intro a hf
   refine l_e hf rfl (ev_load1 hf rfl t1_3 (hB2.at 1)) ?_; intro a hf
   refine l_e hf rfl (ev_eql hf rfl rfl) ?_; intro a hf
   refine l_mv hf rfl rfl ?_; intro a hf
   refine g_split hf (t := 22) rfl (fun hg11 => ?_) (fun hg11 => ?_)
   ·refine l_ev hf ⟨_, _, rfl, rfl, hg11⟩ rfl rfl (ev_fieldB hf rfl fd_107_2 (m := 2) rfl) ?_; intro a hf
    refine l_ev hf ⟨_, _, rfl, rfl, hg11⟩ rfl rfl (ev_load1 hf rfl t1_3 (hB2.at 2)) ?_; intro a hf
    refine l_ev hf ⟨_, _, rfl, rfl, hg11⟩ rfl rfl (ev_eql hf rfl rfl) ?_; intro a hf
    refine l_e hf rfl (ev_pickT hf rfl hg11 rfl) ?_; intro a hf
    refine l_as hf rfl rfl ?_; intro a hf
    refine wpList_nil ?_
    exact ⟨hf.sub ⟨look_bool rfl (by first | rfl | (simp only [hc6b, hc9b, hg11, Bool.true_and, Bool.false_and, Bool.true_or, Bool.false_or]; done) | simp [hc6b, hc9b, hg11]), trivial⟩, rfl⟩
   refine l_pass hf ⟨_, _, rfl, rfl, hg11⟩ rfl rfl ?_; intro a hf
   refine l_pass hf ⟨_, _, rfl, rfl, hg11⟩ rfl rfl ?_; intro a hf
   refine l_pass hf ⟨_, _, rfl, rfl, hg11⟩ rfl rfl ?_; intro a hf
   refine l_e hf rfl (ev_pickF hf rfl hg11 rfl) ?_; intro a hf
   refine l_as hf rfl rfl ?_; intro a hf
   refine wpList_nil ?_
   exact ⟨hf.sub ⟨look_bool rfl (by first | rfl | (simp only [hc6b, hc9b, hg11, Bool.true_and, Bool.false_and, Bool.true_or, Bool.false_or]; done) | simp [hc6b, hc9b, hg11]), trivial⟩, rfl⟩
  rintro a _ ⟨hf, rfl⟩
  refine hK10 _ _ ?_; try clear hK10 K10
  refine wp_ret ?_
  refine x_retB ?_
  refine x_retS ?_
  refine c_ret hf (res1 hf rfl rfl) ?_
  exact ⟨by rw [gOk, hy, if_pos hk, Bool.true_and], hW⟩
 have hc9b := hc9
 have hk : ¬ x.k = 12 := by simpa using hc9
 refine wp_seq_k ?_; intro K12 hK12
 refine wp_region_lit ?_
 refine l_e hf rfl (ev_fieldB hf rfl fd_107_0 (m := 0) rfl) ?_; intro a hf
 refine l_e hf rfl (ev_load1 hf rfl t1_3 (hB2.at 0)) ?_; intro a hf
 refine l_f hf rfl (ef_call (vs := [.int .i64 x.k]) hf rfl ff_99 (F99 _ x.k)) ?_; rintro a _ _ ⟨rfl, rfl⟩ hf
 refine l_as hf rfl rfl ?_; intro a hf
 refine wpList_nil ?_
 refine hK12 _ _ ?_; try clear hK12 K12
 refine c_if hf rfl (fun hc13 => ?_) (fun hc13 => ?_)
 ·have hc13b := hc13
  have hk2 := hc13
  refine wp_seq_k ?_; intro K14 hK14
  refine c_cut (fun a w => Fr a 60 [(4, .bool (((inR x.a 0 (n - 1)) && (inR x.b 0 (n - 1))) && (x.a != x.b)))] ∧ w1 = w) ?_ ?_
  ·refine wp_region_lit ?_
   refine l_e hf rfl (ev_fieldB hf rfl fd_107_1 (m := 1) rfl) ?_; intro a hf
   refine l_e hf rfl (ev_load1 hf rfl t1_3 (hB2.at 1)) ?_; intro a hf
   refine l_mv hf rfl rfl ?_; intro a hf
   refine l_e hf rfl (ev_subx hf rfl rfl (by omega) (by omega)) ?_; intro a hf
   refine l_f hf rfl (ef_call (vs := [.int .i64 x.a, .int .i64 0, .int .i64 (n - 1)]) hf rfl ff_91 (F91 _ x.a 0 (n - 1))) ?_; rintro a _ _ ⟨rfl, rfl⟩ hf
   refine l_mv hf rfl rfl ?_; intro a hf
   refine g_split hf (t := 36) rfl (fun hg15 => ?_) (fun hg15 => ?_)
   ·refine l_ev hf ⟨_, _, rfl, rfl, hg15⟩ rfl rfl (ev_fieldB hf rfl fd_107_2 (m := 2) rfl) ?_; intro a hf
    refine l_ev hf ⟨_, _, rfl, rfl, hg15⟩ rfl rfl (ev_load1 hf rfl t1_3 (hB2.at 2)) ?_; intro a hf
    refine l_ev hf ⟨_, _, rfl, rfl, hg15⟩ rfl rfl (ev_move hf rfl) ?_; intro a hf
    refine l_ev hf ⟨_, _, rfl, rfl, hg15⟩ rfl rfl (ev_subx hf rfl rfl (by omega) (by omega)) ?_; intro a hf
    refine l_eff hf ⟨_, _, rfl, rfl, hg15⟩ rfl rfl (ef_call (vs := [.int .i64 x.b, .int .i64 0, .int .i64 (n - 1)]) hf rfl ff_91 (F91 _ x.b 0 (n - 1))) ?_; rintro a _ _ ⟨rfl, rfl⟩ hf
    refine l_e hf rfl (ev_pickT hf rfl hg15 rfl) ?_; intro a hf
    refine l_mv hf rfl rfl ?_; intro a hf
    refine g_split hf (t := 43) rfl (fun hg16 => ?_) (fun hg16 => ?_)
    ·refine l_ev hf ⟨_, _, rfl, rfl, hg16⟩ rfl rfl (ev_fieldB hf rfl fd_107_1 (m := 1) rfl) ?_; intro a hf
     refine l_ev hf ⟨_, _, rfl, rfl, hg16⟩ rfl rfl (ev_load1 hf rfl t1_3 (hB2.at 1)) ?_; intro a hf
     refine l_ev hf ⟨_, _, rfl, rfl, hg16⟩ rfl rfl (ev_fieldB hf rfl fd_107_2 (m := 2) rfl) ?_; intro a hf
     refine l_ev hf ⟨_, _, rfl, rfl, hg16⟩ rfl rfl (ev_load1 hf rfl t1_3 (hB2.at 2)) ?_; intro a hf
     refine l_ev hf ⟨_, _, rfl, rfl, hg16⟩ rfl rfl (ev_neq hf rfl rfl) ?_; intro a hf
     refine l_e hf rfl (ev_pickT hf rfl hg16 rfl) ?_; intro a hf
     refine l_as hf rfl rfl ?_; intro a hf
     refine wpList_nil ?_
     exact ⟨hf.sub ⟨look_bool rfl (by first | rfl | (simp only [hc6b, hc9b, hc13b, hg15, hg16, Bool.true_and, Bool.false_and, Bool.true_or, Bool.false_or]; done) | simp [hc6b, hc9b, hc13b, hg15, hg16]), trivial⟩, rfl⟩
    refine l_pass hf ⟨_, _, rfl, rfl, hg16⟩ rfl rfl ?_; intro a hf
    refine l_pass hf ⟨_, _, rfl, rfl, hg16⟩ rfl rfl ?_; intro a hf
    refine l_pass hf ⟨_, _, rfl, rfl, hg16⟩ rfl rfl ?_; intro a hf
    refine l_pass hf ⟨_, _, rfl, rfl, hg16⟩ rfl rfl ?_; intro a hf
    refine l_pass hf ⟨_, _, rfl, rfl, hg16⟩ rfl rfl ?_; intro a hf
    refine l_e hf rfl (ev_pickF hf rfl hg16 rfl) ?_; intro a hf
    refine l_as hf rfl rfl ?_; intro a hf
    refine wpList_nil ?_
    exact ⟨hf.sub ⟨look_bool rfl (by first | rfl | (simp only [hc6b, hc9b, hc13b, hg15, hg16, Bool.true_and, Bool.false_and, Bool.true_or, Bool.false_or]; done) | simp [hc6b, hc9b, hc13b, hg15, hg16]), trivial⟩, rfl⟩
   refine l_pass hf ⟨_, _, rfl, rfl, hg15⟩ rfl rfl ?_; intro a hf
   refine l_pass hf ⟨_, _, rfl, rfl, hg15⟩ rfl rfl ?_; intro a hf
   refine l_pass hf ⟨_, _, rfl, rfl, hg15⟩ rfl rfl ?_; intro a hf
   refine l_pass hf ⟨_, _, rfl, rfl, hg15⟩ rfl rfl ?_; intro a hf
   refine l_pass hf ⟨_, _, rfl, rfl, hg15⟩ rfl rfl ?_; intro a hf
   refine l_e hf rfl (ev_pickF hf rfl hg15 rfl) ?_; intro a hf
   refine l_mv hf rfl rfl ?_; intro a hf
   refine l_pass hf ⟨_, _, rfl, rfl, rfl⟩ rfl rfl ?_; intro a hf
   refine l_pass hf ⟨_, _, rfl, rfl, rfl⟩ rfl rfl ?_; intro a hf
   refine l_pass hf ⟨_, _, rfl, rfl, rfl⟩ rfl rfl ?_; intro a hf
   refine l_pass hf ⟨_, _, rfl, rfl, rfl⟩ rfl rfl ?_; intro a hf
   refine l_pass hf ⟨_, _, rfl, rfl, rfl⟩ rfl rfl ?_; intro a hf
   refine l_e hf rfl (ev_pickF hf rfl rfl rfl) ?_; intro a hf
   refine l_as hf rfl rfl ?_; intro a hf
   refine wpList_nil ?_
   exact ⟨hf.sub ⟨look_bool rfl (by first | rfl | (simp only [hc6b, hc9b, hc13b, hg15, Bool.true_and, Bool.false_and, Bool.true_or, Bool.false_or]; done) | simp [hc6b, hc9b, hc13b, hg15]), trivial⟩, rfl⟩
  rintro a _ ⟨hf, rfl⟩
  refine hK14 _ _ ?_; try clear hK14 K14
  refine wp_ret ?_
  refine x_retB ?_
  refine x_retS ?_
  refine c_ret hf (res1 hf rfl rfl) ?_
  exact ⟨by rw [gOk, hy, if_neg hk, if_pos hk2, Bool.true_and], hW⟩
 have hc13b := hc13
 have hk2 : ¬ inR x.k 9 11 = true := by rw [hc13]; simp
 refine wp_skip ?_
 refine x_norm ?_
 refine hK3 _ _ ?_; try clear hK3 K3
 refine wp_seq_k ?_; intro K17 hK17
 refine c_cut (fun a w => Fr a 60 [(4, .bool ((inR x.a 0 (n - 1)) && (x.b == 0)))] ∧ w1 = w) ?_ ?_
 ·refine wp_region_lit ?_
  refine l_e hf rfl (ev_fieldB hf rfl fd_107_1 (m := 1) rfl) ?_; intro a hf
  refine l_e hf rfl (ev_load1 hf rfl t1_3 (hB2.at 1)) ?_; intro a hf
  refine l_mv hf rfl rfl ?_; intro a hf
  refine l_e hf rfl (ev_subx hf rfl rfl (by omega) (by omega)) ?_; intro a hf
  refine l_f hf rfl (ef_call (vs := [.int .i64 x.a, .int .i64 0, .int .i64 (n - 1)]) hf rfl ff_91 (F91 _ x.a 0 (n - 1))) ?_; rintro a _ _ ⟨rfl, rfl⟩ hf
  refine l_mv hf rfl rfl ?_; intro a hf
  refine g_split hf (t := 55) rfl (fun hg18 => ?_) (fun hg18 => ?_)
  ·refine l_ev hf ⟨_, _, rfl, rfl, hg18⟩ rfl rfl (ev_fieldB hf rfl fd_107_2 (m := 2) rfl) ?_; intro a hf
   refine l_ev hf ⟨_, _, rfl, rfl, hg18⟩ rfl rfl (ev_load1 hf rfl t1_3 (hB2.at 2)) ?_; intro a hf
   refine l_ev hf ⟨_, _, rfl, rfl, hg18⟩ rfl rfl (ev_eql hf rfl rfl) ?_; intro a hf
   refine l_e hf rfl (ev_pickT hf rfl hg18 rfl) ?_; intro a hf
   refine l_as hf rfl rfl ?_; intro a hf
   refine wpList_nil ?_
   exact ⟨hf.sub ⟨look_bool rfl (by first | rfl | (simp only [hc6b, hc9b, hc13b, hg18, Bool.true_and, Bool.false_and, Bool.true_or, Bool.false_or]; done) | simp [hc6b, hc9b, hc13b, hg18]), trivial⟩, rfl⟩
  refine l_pass hf ⟨_, _, rfl, rfl, hg18⟩ rfl rfl ?_; intro a hf
  refine l_pass hf ⟨_, _, rfl, rfl, hg18⟩ rfl rfl ?_; intro a hf
  refine l_pass hf ⟨_, _, rfl, rfl, hg18⟩ rfl rfl ?_; intro a hf
  refine l_e hf rfl (ev_pickF hf rfl hg18 rfl) ?_; intro a hf
  refine l_as hf rfl rfl ?_; intro a hf
  refine wpList_nil ?_
  exact ⟨hf.sub ⟨look_bool rfl (by first | rfl | (simp only [hc6b, hc9b, hc13b, hg18, Bool.true_and, Bool.false_and, Bool.true_or, Bool.false_or]; done) | simp [hc6b, hc9b, hc13b, hg18]), trivial⟩, rfl⟩
 rintro a _ ⟨hf, rfl⟩
 refine hK17 _ _ ?_; try clear hK17 K17
 refine wp_ret ?_
 refine c_ret hf (res1 hf rfl rfl) ?_
 exact ⟨by rw [gOk, hy, if_neg hk, if_neg hk2, Bool.true_and], hW⟩
theorem F148 (w0 : World) (Al : Option Addr) (cl : Nat) (l : List Gt) (hr_l : Rd w0 w0.heap.size 107 encG Al l) (kq : FuncId) (pq : List Value) (Fq : FuncF Tryz.prog kq) (q : Gt → Bool) (hq : ∀ x w, Below w0.heap.size w0 w → Ret Tryz.prog kq ([gV x] ++ pq) w (fun v w' => v = .bool (q x) ∧ Below w.heap.size w w')) (hln : l.length ≤ 2305843009213693951) : Ret Tryz.prog 148 [.slice Al l.length cl, .func (.func kq) #[] pq.toArray] w0 (fun v w => ∃ i : Int, v = .int .i64 i ∧ decide (0 ≤ i) = l.any q ∧ Below w0.heap.size w0 w) := by
 refine enter Tryz.func148 rfl 19 rfl rfl ?_
 intro a hf
 have hW : Below w0.heap.size w0 w0 := Below.refl _ _
 refine wp_seq_k ?_; intro K2 hK2
 refine wp_region_lit ?_
 refine l_as hf rfl rfl ?_; intro a hf
 refine wpList_nil ?_
 refine hK2 _ _ ?_; try clear hK2 K2
 refine wp_seq_k ?_; intro K3 hK3
 refine wp_seq_k ?_; intro K4 hK4
 refine wp_region_lit ?_
 refine l_mv hf rfl rfl ?_; intro a hf
 refine l_e hf rfl (ev_len hf rfl sl_28) ?_; intro a hf
 refine l_mv hf rfl rfl ?_; intro a hf
 refine wpList_nil ?_
 refine hK4 _ _ ?_; try clear hK4 K4
 refine wp_block ?_
 refine c_loop (σ := Nat) (fun (k : Nat) (a : Act) (w : World) => Fr a 19 [(0, .slice Al l.length cl), (1, .func (.func kq) #[] pq.toArray), (7, .int .i64 (l.length : Int)), (8, .int .i64 (k : Int))] ∧ (k ≤ l.length) ∧ ((l.take k).all (fun x => !q x) = true) ∧ Below w0.heap.size w0 w) (fun (k : Nat) => l.length + 1 - k) 0 ?_ ?_
 · exact ⟨hf.sub ⟨rfl, rfl, rfl, rfl, trivial⟩, (Nat.zero_le _), (by simp), hW⟩
 rintro k a w1 ⟨hf, hk, hpre, hW⟩
 refine wp_seq_k ?_; intro K5 hK5
 refine wp_region_lit ?_
 refine l_e hf rfl (ev_lss hf rfl rfl) ?_; intro a hf
 refine wpList_nil ?_
 refine hK5 _ _ ?_; try clear hK5 K5
 refine wp_seq_k ?_; intro K6 hK6
 refine c_if hf rfl (fun hc7 => ?_) (fun hc7 => ?_)
 ·have hc7b := hc7
  have hc7 := of_decide_eq_true hc7
  obtain ⟨u8, hu8⟩ := getElem_ex (l := l) (k := k) (by omega)
  refine wp_skip ?_
  refine hK6 _ _ ?_; try clear hK6 K6
  refine wp_seq_k ?_; intro K9 hK9
  refine wp_block ?_
  refine wp_seq_k ?_; intro K10 hK10
  refine wp_region_lit ?_
  refine l_mv hf rfl rfl ?_; intro a hf
  refine l_as hf rfl rfl ?_; intro a hf
  refine wpList_nil ?_
  refine hK10 _ _ ?_; try clear hK10 K10
  refine wp_seq_k ?_; intro K11 hK11
  refine wp_region_lit ?_
  refine l_mv hf rfl rfl ?_; intro a hf
  refine l_mv hf rfl rfl ?_; intro a hf
  refine l_mv hf rfl rfl ?_; intro a hf
  refine l_index (k := k) (u := u8) (enc := encG) (l := l) hf trivial rfl rfl rfl sl_28 sz_107 encG_len (hr_l.below' hW) hu8 rfl ?_; intro a p13 hat12 hf
  refine l_e hf rfl (ev_loadN (l := [.int .i64 u8.k, .int .i64 u8.a, .int .i64 u8.b]) hf rfl tN_107 hat12 rfl) ?_; intro a hf
  refine l_f hf rfl (ef_callv (cs := pq) (vs := [.agg #[.int .i64 u8.k, .int .i64 u8.a, .int .i64 u8.b]]) hf rfl rfl Fq (hq u8 _ hW)) ?_; rintro a _ w2 ⟨rfl, hE⟩ hf
  replace hW := btr hW hE
  clear hE
  refine wpList_nil ?_
  refine hK11 _ _ ?_; try clear hK11 K11
  refine c_if hf rfl (fun hc14 => ?_) (fun hc14 => ?_)
  ·have hc14b := hc14
   have hb2 : l.any q = true := any_true hu8 hc14
   refine wp_seq_k ?_; intro K15 hK15
   refine wp_region_lit ?_
   refine l_mv hf rfl rfl ?_; intro a hf
   refine l_as hf rfl rfl ?_; intro a hf
   refine wpList_nil ?_
   refine hK15 _ _ ?_; try clear hK15 K15
   refine wp_ret ?_
   refine x_retB ?_
   refine x_retS ?_
   refine x_retS ?_
   refine x_retB ?_
   refine x_retS ?_
   refine c_ret hf (res1 hf rfl rfl) ?_
   exact ⟨_, rfl, by rw [hb2]; simp, hW⟩
  have hc14b := hc14
  have hok : (!q u8) = true := by revert hc14; cases q u8 <;> simp
  refine wp_skip ?_
  refine x_norm ?_
  refine hK9 _ _ ?_; try clear hK9 K9
  refine wp_region_lit ?_
  refine l_e hf rfl (ev_addx hf rfl rfl (by omega) (by omega)) ?_; intro a hf
  refine l_mv hf rfl rfl ?_; intro a hf
  refine wpList_nil ?_
  refine x_thenN ?_
  exact ⟨k + 1, ⟨hf.sub ⟨rfl, rfl, rfl, rfl, trivial⟩, (by omega), (take_all hpre hu8 hok), hW⟩, (by omega)⟩
 have hc7b := hc7
 have hc7 := of_decide_eq_false hc7
 refine wp_exit ?_
 refine x_exS ?_
 refine x_exS ?_
 refine x_exit ?_
 refine hK3 _ _ ?_; try clear hK3 K3
 refine wp_seq_k ?_; intro K16 hK16
 refine wp_region_lit ?_
 refine l_as hf rfl rfl ?_; intro a hf
 refine wpList_nil ?_
 refine hK16 _ _ ?_; try clear hK16 K16
 refine wp_ret ?_
 refine c_ret hf (res1 hf rfl rfl) ?_
 have hb2 : l.any q = false := any_false (take_full hpre (by omega))
 exact ⟨_, rfl, by rw [hb2]; rfl, hW⟩
theorem F104 (w0 : World) (Al : Option Addr) (cl : Nat) (l : List Gt) (hr_l : Rd w0 w0.heap.size 107 encG Al l) (kq : FuncId) (pq : List Value) (Fq : FuncF Tryz.prog kq) (q : Gt → Bool) (hq : ∀ x w, Below w0.heap.size w0 w → Ret Tryz.prog kq ([gV x] ++ pq) w (fun v w' => v = .bool (q x) ∧ Below w.heap.size w w')) (hln : l.length ≤ 2305843009213693951) : Ret Tryz.prog 104 [.slice Al l.length cl, .func (.func kq) #[] pq.toArray] w0 (fun v w => v = .bool (l.any q) ∧ Below w0.heap.size w0 w) := by
 refine enter Tryz.func104 rfl 9 rfl rfl ?_
 intro a hf
 have hW : Below w0.heap.size w0 w0 := Below.refl _ _
 refine wp_seq_k ?_; intro K2 hK2
 refine wp_region_lit ?_
 refine l_as hf rfl rfl ?_; intro a hf
 refine wpList_nil ?_
 refine hK2 _ _ ?_; try clear hK2 K2
 refine wp_seq_k ?_; intro K3 hK3
 refine wp_region_lit ?_
 refine l_mv hf rfl rfl ?_; intro a hf
 refine l_mv hf rfl rfl ?_; intro a hf
 refine l_f hf rfl (ef_call (vs := [.slice Al l.length cl, .func (.func kq) #[] pq.toArray]) hf rfl ff_148 (F148 _ Al cl l (hr_l.below' hW).top kq pq Fq q (fun x w' hE' => hq x w' (hW.trans (hE'.mono hW.size))) hln)) ?_; rintro a _ w1 ⟨ix, rfl, hix, hE⟩ hf
 replace hW := btr hW hE
 clear hE
 refine l_e hf rfl (ev_geq hf rfl rfl) ?_; intro a hf
 refine l_as hf rfl rfl ?_; intro a hf
 refine wpList_nil ?_
 refine hK3 _ _ ?_; try clear hK3 K3
 refine wp_ret ?_
 refine c_ret hf (res1 hf rfl rfl) ?_
 exact ⟨by rw [← hix], hW⟩
theorem F105 (w0 : World) (x : Gt) (n : Int) (ba : Nat) (v1 : Value) (hBa : Blk w0 ba 41 [.int .i64 n, v1]) : Ret Tryz.prog 105 [.agg #[.int .i64 x.k, .int .i64 x.a, .int .i64 x.b], .pointer (some ⟨ba, 0, none⟩)] w0 (fun v w => v = .bool (!gOk n x) ∧ Below w0.heap.size w0 w) := by
 have hltba := hBa.lt
 refine enter Tryz.func105 rfl 9 rfl rfl ?_
 intro a hf
 have hW : Below w0.heap.size w0 w0 := Below.refl _ _
 refine wp_seq_k ?_; intro K1 hK1
 refine wp_region_lit ?_
 refine l_f hf rfl (ef_box (zs := [.int .i64 x.k, .int .i64 x.a, .int .i64 x.b]) hf rfl rfl) ?_; rintro a _ w1 ⟨b2, rfl, hl2, hE, hB2⟩ hf
 have hlo2 := Nat.le_trans hW.size hl2
 replace hBa := hBa.below hE
 replace hW := btr hW hE
 clear hE
 refine l_as hf rfl rfl ?_; intro a hf
 refine wpList_nil ?_
 refine hK1 _ _ ?_; try clear hK1 K1
 refine wp_seq_k ?_; intro K3 hK3
 refine wp_region_lit ?_
 refine l_e hf rfl (ev_fieldB hf rfl fd_41_0 (m := 0) rfl) ?_; intro a hf
 refine l_e hf rfl (ev_load1 hf rfl t1_3 (hBa.at 0)) ?_; intro a hf
 refine l_e hf rfl (ev_loadN (l := [.int .i64 x.k, .int .i64 x.a, .int .i64 x.b]) hf rfl tN_107 (hB2.at 0) rfl) ?_; intro a hf
 refine l_f hf rfl (ef_call (vs := [.int .i64 n, .agg #[.int .i64 x.k, .int .i64 x.a, .int .i64 x.b]]) hf rfl ff_106 (F106 _ n x)) ?_; rintro a _ w2 ⟨rfl, hE⟩ hf
 replace hBa := hBa.below hE
 replace hB2 := hB2.below hE
 replace hW := btr hW hE
 clear hE
 refine l_e hf rfl (ev_not hf rfl) ?_; intro a hf
 refine l_as hf rfl rfl ?_; intro a hf
 refine wpList_nil ?_
 refine hK3 _ _ ?_; try clear hK3 K3
 refine wp_ret ?_
 refine c_ret hf (res1 hf rfl rfl) ?_
 exact ⟨rfl, hW⟩
theorem F55 (w0 : World) (c : Cx) (Ac : Option Addr) (cc : Nat) (hr_c : Rd w0 w0.heap.size 107 encG Ac c.gs) (hln : c.gs.length ≤ 2305843009213693951) : Ret Tryz.prog 55 [.agg #[.int .i64 c.n, .slice Ac c.gs.length cc]] w0 (fun v w => v = .bool (cOk c) ∧ Below w0.heap.size w0 w) := by
 refine enter Tryz.func55 rfl 19 rfl rfl ?_
 intro a hf
 have hW : Below w0.heap.size w0 w0 := Below.refl _ _
 refine wp_seq_k ?_; intro K2 hK2
 refine wp_region_lit ?_
 refine l_f hf rfl (ef_box (zs := [.int .i64 c.n, .slice Ac c.gs.length cc]) hf rfl rfl) ?_; rintro a _ w1 ⟨b3, rfl, hl3, hE, hB3⟩ hf
 have hlo3 := Nat.le_trans hW.size hl3
 replace hW := btr hW hE
 clear hE
 refine l_as hf rfl rfl ?_; intro a hf
 refine wpList_nil ?_
 refine hK2 _ _ ?_; try clear hK2 K2
 refine wp_seq_k ?_; intro K4 hK4
 refine c_cut (fun a w => Fr a 19 [(2, .bool (((inR c.n 1 5) && (decide ((c.gs.length : Int) ≤ 400))) && (!(c.gs.any (fun x => !gOk c.n x)))))] ∧ Below w1.heap.size w1 w) ?_ ?_
 ·have hEc : Below w1.heap.size w1 w1 := Below.refl _ _
  refine wp_region_lit ?_
  refine l_e hf rfl (ev_fieldB hf rfl fd_41_0 (m := 0) rfl) ?_; intro a hf
  refine l_e hf rfl (ev_load1 hf rfl t1_3 (hB3.at 0)) ?_; intro a hf
  refine l_f hf rfl (ef_call (vs := [.int .i64 c.n, .int .i64 1, .int .i64 5]) hf rfl ff_91 (F91 _ c.n 1 5)) ?_; rintro a _ _ ⟨rfl, rfl⟩ hf
  refine l_mv hf rfl rfl ?_; intro a hf
  refine g_split hf (t := 6) rfl (fun hg5 => ?_) (fun hg5 => ?_)
  ·refine l_ev hf ⟨_, _, rfl, rfl, hg5⟩ rfl rfl (ev_fieldB hf rfl fd_41_1 (m := 1) rfl) ?_; intro a hf
   refine l_ev hf ⟨_, _, rfl, rfl, hg5⟩ rfl rfl (ev_load1 hf rfl t1_28 (hB3.at 1)) ?_; intro a hf
   refine l_ev hf ⟨_, _, rfl, rfl, hg5⟩ rfl rfl (ev_len hf rfl sl_28) ?_; intro a hf
   refine l_ev hf ⟨_, _, rfl, rfl, hg5⟩ rfl rfl (ev_leq hf rfl rfl) ?_; intro a hf
   refine l_e hf rfl (ev_pickT hf rfl hg5 rfl) ?_; intro a hf
   refine l_mv hf rfl rfl ?_; intro a hf
   refine g_split hf (t := 12) rfl (fun hg6 => ?_) (fun hg6 => ?_)
   ·refine l_ev hf ⟨_, _, rfl, rfl, hg6⟩ rfl rfl (ev_fieldB hf rfl fd_41_1 (m := 1) rfl) ?_; intro a hf
    refine l_ev hf ⟨_, _, rfl, rfl, hg6⟩ rfl rfl (ev_load1 hf rfl t1_28 (hB3.at 1)) ?_; intro a hf
    refine l_ev hf ⟨_, _, rfl, rfl, hg6⟩ rfl rfl (ev_makeFunc (vs := [.pointer (some ⟨b3, 0, none⟩)]) hf rfl) ?_; intro a hf
    refine l_eff hf ⟨_, _, rfl, rfl, hg6⟩ rfl rfl (ef_call (vs := [.slice Ac c.gs.length cc, .func (.func 105) #[] #[.pointer (some ⟨b3, 0, none⟩)]]) hf rfl ff_104 (F104 _ Ac cc c.gs (hr_c.below' hW).top 105 [.pointer (some ⟨b3, 0, none⟩)] ff_105 (fun x => !gOk c.n x) (fun x w' hE' => F105 w' x c.n _ _ (hB3.below hE')) hln)) ?_; rintro a _ w2 ⟨rfl, hE⟩ hf
    replace hB3 := hB3.below hE
    replace hW := btr hW hE
    replace hEc := btr hEc hE
    clear hE
    refine l_ev hf ⟨_, _, rfl, rfl, hg6⟩ rfl rfl (ev_not hf rfl) ?_; intro a hf
    refine l_e hf rfl (ev_pickT hf rfl hg6 rfl) ?_; intro a hf
    refine l_as hf rfl rfl ?_; intro a hf
    refine wpList_nil ?_
    have hEE : Below w1.heap.size w1 w2 := hEc
    exact ⟨hf.sub ⟨look_bool rfl (by first | rfl | (simp only [hg5, hg6, Bool.true_and, Bool.false_and, Bool.true_or, Bool.false_or]; done) | simp [hg5, hg6]), trivial⟩, hEE⟩
   refine l_pass hf ⟨_, _, rfl, rfl, hg6⟩ rfl rfl ?_; intro a hf
   refine l_pass hf ⟨_, _, rfl, rfl, hg6⟩ rfl rfl ?_; intro a hf
   refine l_pass hf ⟨_, _, rfl, rfl, hg6⟩ rfl rfl ?_; intro a hf
   refine l_pass hf ⟨_, _, rfl, rfl, hg6⟩ rfl rfl ?_; intro a hf
   refine l_pass hf ⟨_, _, rfl, rfl, hg6⟩ rfl rfl ?_; intro a hf
   refine l_e hf rfl (ev_pickF hf rfl hg6 rfl) ?_; intro a hf
   refine l_as hf rfl rfl ?_; intro a hf
   refine wpList_nil ?_
   have hEE : Below w1.heap.size w1 w1 := hEc
   exact ⟨hf.sub ⟨look_bool rfl (by first | rfl | (simp only [hg5, hg6, Bool.true_and, Bool.false_and, Bool.true_or, Bool.false_or]; done) | simp [hg5, hg6]), trivial⟩, hEE⟩
  refine l_pass hf ⟨_, _, rfl, rfl, hg5⟩ rfl rfl ?_; intro a hf
  refine l_pass hf ⟨_, _, rfl, rfl, hg5⟩ rfl rfl ?_; intro a hf
  refine l_pass hf ⟨_, _, rfl, rfl, hg5⟩ rfl rfl ?_; intro a hf
  refine l_pass hf ⟨_, _, rfl, rfl, hg5⟩ rfl rfl ?_; intro a hf
  refine l_e hf rfl (ev_pickF hf rfl hg5 rfl) ?_; intro a hf
  refine l_mv hf rfl rfl ?_; intro a hf
  refine l_pass hf ⟨_, _, rfl, rfl, rfl⟩ rfl rfl ?_; intro a hf
  refine l_pass hf ⟨_, _, rfl, rfl, rfl⟩ rfl rfl ?_; intro a hf
  refine l_pass hf ⟨_, _, rfl, rfl, rfl⟩ rfl rfl ?_; intro a hf
  refine l_pass hf ⟨_, _, rfl, rfl, rfl⟩ rfl rfl ?_; intro a hf
  refine l_pass hf ⟨_, _, rfl, rfl, rfl⟩ rfl rfl ?_; intro a hf
  refine l_e hf rfl (ev_pickF hf rfl rfl rfl) ?_; intro a hf
  refine l_as hf rfl rfl ?_; intro a hf
  refine wpList_nil ?_
  have hEE : Below w1.heap.size w1 w1 := hEc
  exact ⟨hf.sub ⟨look_bool rfl (by first | rfl | (simp only [hg5, Bool.true_and, Bool.false_and, Bool.true_or, Bool.false_or]; done) | simp [hg5]), trivial⟩, hEE⟩
 rintro a w3 ⟨hf, hE⟩
 replace hB3 := hB3.below hE
 replace hW := btr hW hE
 clear hE
 refine hK4 _ _ ?_; try clear hK4 K4
 refine wp_ret ?_
 refine c_ret hf (res1 hf rfl rfl) ?_
 exact ⟨by simp [cOk, *], hW⟩
end Go.Proofs.YtfgnmflfiobkmaaGreat
set_option maxRecDepth 4000
namespace Go.Proofs.YtfgnmflfiobkmaaGreat
open Go.RowKit
end Go.Proofs.YtfgnmflfiobkmaaGreat
set_option maxRecDepth 4000
namespace Go.Proofs.YtfgnmflfiobkmaaGreat
open Go.RowKit
theorem F231 (w0 : World) (bV : Nat) (f : Bool) (hBV : Blk w0 bV 194 [.bool f]) (x : Rg) : Ret Tryz.prog 231 [.pointer (some ⟨bV, 0, none⟩), .agg #[.int .i64 x.a, .int .i64 x.b, .int .i64 x.c, .int .i64 x.d]] w0 (fun v w => v = rV (sRing x) ∧ Kept bV w0.heap.size w0 w ∧ Blk w bV 194 [.bool (f || !rOk x)]) := by
 have hltV := hBV.lt
 refine enter Tryz.func231 rfl 13 rfl rfl ?_
 intro a hf
 have hW : Kept bV w0.heap.size w0 w0 := Kept.refl _ _ _
 refine wp_seq_k ?_; intro K1 hK1
 refine wp_region_lit ?_
 refine l_f hf rfl (ef_box (zs := [.int .i64 x.a, .int .i64 x.b, .int .i64 x.c, .int .i64 x.d]) hf rfl rfl) ?_; rintro a _ w1 ⟨b2, rfl, hl2, hE, hB2⟩ hf
 have hlo2 := Nat.le_trans hW.size hl2
 replace hBV := hBV.below hE
 replace hW := ktr hW hE
 clear hE
 refine l_f hf rfl (ef_alloc (zs := [.int .i64 0, .int .i64 0, .int .i64 0, .int .i64 0]) z_187 rfl) ?_; rintro a _ w2 ⟨b3, rfl, hl3, hE, hB3⟩ hf
 have hne2_3 : b2 ≠ b3 := by have := hB2.lt; omega
 have hlo3 := Nat.le_trans hW.size hl3
 replace hBV := hBV.below hE
 replace hB2 := hB2.below hE
 replace hW := ktr hW hE
 clear hE
 refine wpList_nil ?_
 refine hK1 _ _ ?_; try clear hK1 K1
 refine wp_seq_k ?_; intro K4 hK4
 refine wp_seq_k ?_; intro K5 hK5
 refine wp_region_lit ?_
 refine l_e hf rfl (ev_loadN (l := [.int .i64 x.a, .int .i64 x.b, .int .i64 x.c, .int .i64 x.d]) hf rfl tN_187 (hB2.at 0) rfl) ?_; intro a hf
 refine l_f hf rfl (ef_call (vs := [.agg #[.int .i64 x.a, .int .i64 x.b, .int .i64 x.c, .int .i64 x.d]]) hf rfl ff_245 (F245 _ x)) ?_; rintro a _ w3 ⟨rfl, hE⟩ hf
 replace hBV := hBV.below hE
 replace hB2 := hB2.below hE
 replace hB3 := hB3.below hE
 replace hW := ktr hW hE
 clear hE
 refine l_e hf rfl (ev_not hf rfl) ?_; intro a hf
 refine wpList_nil ?_
 refine hK5 _ _ ?_; try clear hK5 K5
 refine c_if hf rfl (fun hc6 => ?_) (fun hc6 => ?_)
 ·have hc6b := hc6
  have ho : rOk x = false := by revert hc6; cases rOk x <;> simp
  refine wp_seq_k ?_; intro K7 hK7
  refine wp_region_lit ?_
  refine l_mv hf rfl rfl ?_; intro a hf
  refine l_e hf rfl (ev_nil hf rfl) ?_; intro a hf
  refine l_e hf rfl (ev_fieldB hf rfl fd_194_0 (m := 0) rfl) ?_; intro a hf
  refine l_f0 hf (ef_store (vs := [.bool true]) (l' := [.bool true]) hf rfl rfl sz_4 hBV rfl rfl rfl rfl rfl) ?_; rintro a _ w4 ⟨ho, hb⟩ hf
  have hold := hBV
  replace hB2 := hB2.only ho (Blk.ne hB2 hold rfl)
  replace hB3 := hB3.only ho (Blk.ne hB3 hold rfl)
  replace hW := hW.self ho
  clear hold
  have hBV := hb
  clear hb ho
  refine wpList_nil ?_
  refine hK7 _ _ ?_; try clear hK7 K7
  refine wp_seq_k ?_; intro K8 hK8
  refine wp_region_lit ?_
  refine l_e hf rfl (ev_build (ps := []) (cs := [.int .i64 0, .int .i64 0, .int .i64 0, .int .i64 0]) hf rfl (fun _ => by first | rfl | kernel_rfl)) ?_; intro a hf
  refine l_f0 hf (ef_store (vs := [.int .i64 0, .int .i64 0, .int .i64 0, .int .i64 0]) (l' := [.int .i64 0, .int .i64 0, .int .i64 0, .int .i64 0]) hf rfl rfl sz_187 hB3 rfl rfl rfl rfl rfl) ?_; rintro a _ w5 ⟨ho, hb⟩ hf
  have hold := hB3
  replace hBV := hBV.only ho (Blk.ne hBV hold rfl)
  replace hW := Kept.only hW ho hlo3
  clear hold
  have hB3 := hb
  clear hb ho
  refine wpList_nil ?_
  refine hK8 _ _ ?_; try clear hK8 K8
  refine wp_ret ?_
  refine x_retS ?_
  refine c_ret hf (res1 hf rfl (ResV.cellN (l := [.int .i64 0, .int .i64 0, .int .i64 0, .int .i64 0]) rfl tN_187 (hB3.at 0) rfl)) ?_
  exact ⟨by simp [sRing, ho], hW, by simpa [ho] using hBV⟩
 have hc6b := hc6
 have ho : rOk x = true := by revert hc6; cases rOk x <;> simp
 refine wp_skip ?_
 refine hK4 _ _ ?_; try clear hK4 K4
 refine wp_seq_k ?_; intro K9 hK9
 refine wp_region_lit ?_
 refine l_e hf rfl (ev_loadN (l := [.int .i64 x.a, .int .i64 x.b, .int .i64 x.c, .int .i64 x.d]) hf rfl tN_187 (hB2.at 0) rfl) ?_; intro a hf
 refine l_f0 hf (ef_store (vs := [.int .i64 x.a, .int .i64 x.b, .int .i64 x.c, .int .i64 x.d]) (l' := [.int .i64 x.a, .int .i64 x.b, .int .i64 x.c, .int .i64 x.d]) hf rfl rfl sz_187 hB3 rfl rfl rfl rfl rfl) ?_; rintro a _ w6 ⟨ho, hb⟩ hf
 have hold := hB3
 replace hBV := hBV.only ho (Blk.ne hBV hold rfl)
 replace hB2 := hB2.only ho (by omega)
 replace hW := Kept.only hW ho hlo3
 clear hold
 have hB3 := hb
 clear hb ho
 refine wpList_nil ?_
 refine hK9 _ _ ?_; try clear hK9 K9
 refine wp_ret ?_
 refine c_ret hf (res1 hf rfl (ResV.cellN (l := [.int .i64 x.a, .int .i64 x.b, .int .i64 x.c, .int .i64 x.d]) rfl tN_187 (hB3.at 0) rfl)) ?_
 exact ⟨by simp [sRing, ho], hW, by simpa [ho] using hBV⟩
theorem F202 (w0 : World) (bV : Nat) (f : Bool) (hBV : Blk w0 bV 194 [.bool f]) (x : Dy) (y : Dy) (hx : 0 ≤ x.exp ∧ x.exp ≤ 60) (hy : 0 ≤ y.exp ∧ y.exp ≤ 60) : Ret Tryz.prog 202 [.pointer (some ⟨bV, 0, none⟩), .agg #[.int .i64 x.num.a, .int .i64 x.num.b, .int .i64 x.num.c, .int .i64 x.num.d, .int .i64 x.exp], .agg #[.int .i64 y.num.a, .int .i64 y.num.b, .int .i64 y.num.c, .int .i64 y.num.d, .int .i64 y.exp]] w0 (fun v w => v = dV ((sMul f x y).2) ∧ Kept bV w0.heap.size w0 w ∧ Blk w bV 194 [.bool ((sMul f x y).1)]) := by
 have hltV := hBV.lt
 refine enter Tryz.func202 rfl 30 rfl rfl ?_
 intro a hf
 have hW : Kept bV w0.heap.size w0 w0 := Kept.refl _ _ _
 refine wp_seq_k ?_; intro K1 hK1
 refine wp_region_lit ?_
 refine l_f hf rfl (ef_box (zs := [.int .i64 x.num.a, .int .i64 x.num.b, .int .i64 x.num.c, .int .i64 x.num.d, .int .i64 x.exp]) hf rfl rfl) ?_; rintro a _ w1 ⟨b2, rfl, hl2, hE, hB2⟩ hf
 have hlo2 := Nat.le_trans hW.size hl2
 replace hBV := hBV.below hE
 replace hW := ktr hW hE
 clear hE
 refine l_f hf rfl (ef_box (zs := [.int .i64 y.num.a, .int .i64 y.num.b, .int .i64 y.num.c, .int .i64 y.num.d, .int .i64 y.exp]) hf rfl rfl) ?_; rintro a _ w2 ⟨b3, rfl, hl3, hE, hB3⟩ hf
 have hne2_3 : b2 ≠ b3 := by have := hB2.lt; omega
 have hlo3 := Nat.le_trans hW.size hl3
 replace hBV := hBV.below hE
 replace hB2 := hB2.below hE
 replace hW := ktr hW hE
 clear hE
 refine l_f hf rfl (ef_alloc (zs := [.int .i64 0, .int .i64 0, .int .i64 0, .int .i64 0, .int .i64 0]) z_189 rfl) ?_; rintro a _ w3 ⟨b4, rfl, hl4, hE, hB4⟩ hf
 have hne2_4 : b2 ≠ b4 := by have := hB2.lt; omega
 have hne3_4 : b3 ≠ b4 := by have := hB3.lt; omega
 have hlo4 := Nat.le_trans hW.size hl4
 replace hBV := hBV.below hE
 replace hB2 := hB2.below hE
 replace hB3 := hB3.below hE
 replace hW := ktr hW hE
 clear hE
 refine wpList_nil ?_
 refine hK1 _ _ ?_; try clear hK1 K1
 refine wp_seq_k ?_; intro K5 hK5
 refine wp_seq_k ?_; intro K6 hK6
 refine wp_region_lit ?_
 refine l_e hf rfl (ev_fieldB hf rfl fd_189_1 (m := 4) rfl) ?_; intro a hf
 refine l_e hf rfl (ev_load1 hf rfl t1_3 (hB2.at 4)) ?_; intro a hf
 refine l_e hf rfl (ev_fieldB hf rfl fd_189_1 (m := 4) rfl) ?_; intro a hf
 refine l_e hf rfl (ev_load1 hf rfl t1_3 (hB3.at 4)) ?_; intro a hf
 refine l_e hf rfl (ev_addx hf rfl rfl (by omega) (by omega)) ?_; intro a hf
 refine l_e hf rfl (ev_gtr hf rfl rfl) ?_; intro a hf
 refine wpList_nil ?_
 refine hK6 _ _ ?_; try clear hK6 K6
 refine c_if hf rfl (fun hc7 => ?_) (fun hc7 => ?_)
 ·have hc7b := hc7
  have hc7 := of_decide_eq_true hc7
  have hm : 60 < x.exp + y.exp := hc7
  refine wp_seq_k ?_; intro K8 hK8
  refine wp_region_lit ?_
  refine l_mv hf rfl rfl ?_; intro a hf
  refine l_e hf rfl (ev_nil hf rfl) ?_; intro a hf
  refine l_e hf rfl (ev_fieldB hf rfl fd_194_0 (m := 0) rfl) ?_; intro a hf
  refine l_f0 hf (ef_store (vs := [.bool true]) (l' := [.bool true]) hf rfl rfl sz_4 hBV rfl rfl rfl rfl rfl) ?_; rintro a _ w4 ⟨ho, hb⟩ hf
  have hold := hBV
  replace hB2 := hB2.only ho (Blk.ne hB2 hold rfl)
  replace hB3 := hB3.only ho (Blk.ne hB3 hold rfl)
  replace hB4 := hB4.only ho (Blk.ne hB4 hold rfl)
  replace hW := hW.self ho
  clear hold
  have hBV := hb
  clear hb ho
  refine wpList_nil ?_
  refine hK8 _ _ ?_; try clear hK8 K8
  refine wp_seq_k ?_; intro K9 hK9
  refine wp_region_lit ?_
  refine l_e hf rfl (ev_build (ps := []) (cs := [.int .i64 0, .int .i64 0, .int .i64 0, .int .i64 0, .int .i64 0]) hf rfl (fun _ => by first | rfl | kernel_rfl)) ?_; intro a hf
  refine l_f0 hf (ef_store (vs := [.int .i64 0, .int .i64 0, .int .i64 0, .int .i64 0, .int .i64 0]) (l' := [.int .i64 0, .int .i64 0, .int .i64 0, .int .i64 0, .int .i64 0]) hf rfl rfl sz_189 hB4 rfl rfl rfl rfl rfl) ?_; rintro a _ w5 ⟨ho, hb⟩ hf
  have hold := hB4
  replace hBV := hBV.only ho (Blk.ne hBV hold rfl)
  replace hW := Kept.only hW ho hlo4
  clear hold
  have hB4 := hb
  clear hb ho
  refine wpList_nil ?_
  refine hK9 _ _ ?_; try clear hK9 K9
  refine wp_ret ?_
  refine x_retS ?_
  refine c_ret hf (res1 hf rfl (ResV.cellN (l := [.int .i64 0, .int .i64 0, .int .i64 0, .int .i64 0, .int .i64 0]) rfl tN_189 (hB4.at 0) rfl)) ?_
  exact ⟨by rw [sMul, if_pos hm]; rfl, hW, by rw [sMul, if_pos hm]; exact hBV⟩
 have hc7b := hc7
 have hc7 := of_decide_eq_false hc7
 have hm : ¬ 60 < x.exp + y.exp := hc7
 refine wp_skip ?_
 refine hK5 _ _ ?_; try clear hK5 K5
 refine wp_seq_k ?_; intro K10 hK10
 refine wp_draw (some bV) (fun j => [13].contains j) mixed ?_
 intro w6 hE
 replace hBV := hBV.below hE
 replace hB2 := hB2.below hE
 replace hB3 := hB3.below hE
 replace hB4 := hB4.below hE
 replace hW := ktr hW hE
 clear hE
 refine s_e0 0 rfl (by kernel_rfl) hf rfl (fun _ => ev_move hf rfl) ?_; intro a hf
 refine s_e0 1 rfl (by kernel_rfl) hf rfl (fun _ => ev_fieldB hf rfl fd_189_0 (m := 0) rfl) ?_; intro a hf
 refine s_evV 2 rfl (by kernel_rfl) (by kernel_rfl) hf trivial rfl rfl (fun w1 h1 => ev_loadN (l := [.int .i64 x.num.a, .int .i64 x.num.b, .int .i64 x.num.c, .int .i64 x.num.d]) hf rfl tN_187 (((hB2.only h1 (Blk.ne hB2 hBV rfl)).at 0).take 4) rfl) ?_; intro a hf
 refine s_e0 3 rfl (by kernel_rfl) hf rfl (fun _ => ev_fieldB hf rfl fd_189_0 (m := 0) rfl) ?_; intro a hf
 refine s_evV 4 rfl (by kernel_rfl) (by kernel_rfl) hf trivial rfl rfl (fun w1 h1 => ev_loadN (l := [.int .i64 y.num.a, .int .i64 y.num.b, .int .i64 y.num.c, .int .i64 y.num.d]) hf rfl tN_187 (((hB3.only h1 (Blk.ne hB3 hBV rfl)).at 0).take 4) rfl) ?_; intro a hf
 refine s_e0 7 rfl (by kernel_rfl) hf rfl (fun _ => ev_fieldB hf rfl fd_189_1 (m := 4) rfl) ?_; intro a hf
 refine s_evV 8 rfl (by kernel_rfl) (by kernel_rfl) hf trivial rfl rfl (fun w1 h1 => ev_load1 hf rfl t1_3 ((hB2.only h1 (Blk.ne hB2 hBV rfl)).at 4)) ?_; intro a hf
 refine s_e0 9 rfl (by kernel_rfl) hf rfl (fun _ => ev_fieldB hf rfl fd_189_1 (m := 4) rfl) ?_; intro a hf
 refine s_evV 10 rfl (by kernel_rfl) (by kernel_rfl) hf trivial rfl rfl (fun w1 h1 => ev_load1 hf rfl t1_3 ((hB3.only h1 (Blk.ne hB3 hBV rfl)).at 4)) ?_; intro a hf
 refine s_e0 11 rfl (by kernel_rfl) hf rfl (fun _ => ev_addx hf rfl rfl (by omega) (by omega)) ?_; intro a hf
 refine s_one 5 (by kernel_rfl) ?_
 refine p_eff rfl hf trivial rfl rfl (Ef.mono (ef_call (vs := [.agg #[.int .i64 x.num.a, .int .i64 x.num.b, .int .i64 x.num.c, .int .i64 x.num.d], .agg #[.int .i64 y.num.a, .int .i64 y.num.b, .int .i64 y.num.c, .int .i64 y.num.d]]) hf rfl ff_235 (F235 _ x.num y.num)) (fun _ _ h => ⟨fun _ => by obtain ⟨rfl, hE⟩ := h; exact Keep.of_below hE, h⟩)) ?_; rintro a _ w7 ⟨rfl, hE⟩ hf
 replace hBV := hBV.below hE
 replace hB2 := hB2.below hE
 replace hB3 := hB3.below hE
 replace hB4 := hB4.below hE
 replace hW := ktr hW hE
 clear hE
 refine s_one 6 (by kernel_rfl) ?_
 refine p_eff rfl hf trivial rfl rfl (Ef.mono (ef_call (vs := [.pointer (some ⟨bV, 0, none⟩), .agg #[.int .i64 ((rMul x.num y.num).a), .int .i64 ((rMul x.num y.num).b), .int .i64 ((rMul x.num y.num).c), .int .i64 ((rMul x.num y.num).d)]]) hf rfl ff_231 (F231 _ bV f hBV (rMul x.num y.num))) (fun _ _ h => ⟨fun _ => by obtain ⟨rfl, hK, hbn⟩ := h; exact hK.keep, h⟩)) ?_; rintro a _ w8 ⟨rfl, hK, hbn⟩ hf
 obtain ⟨wm, hO, hm, hE⟩ := hK.mid; clear hm
 have hold := hBV
 replace hB2 := hB2.only hO (Blk.ne hB2 hold rfl)
 replace hB3 := hB3.only hO (Blk.ne hB3 hold rfl)
 replace hB4 := hB4.only hO (Blk.ne hB4 hold rfl)
 replace hW := hW.self hO
 replace hB2 := hB2.below hE
 replace hB3 := hB3.below hE
 replace hB4 := hB4.below hE
 replace hW := ktr hW hE
 clear hold hE hO hK; replace hBV := hbn; clear hbn
 refine s_one 12 (by kernel_rfl) ?_
 refine p_eff rfl hf trivial rfl rfl (Ef.mono (ef_call (vs := [.agg #[.int .i64 ((sRing (rMul x.num y.num)).a), .int .i64 ((sRing (rMul x.num y.num)).b), .int .i64 ((sRing (rMul x.num y.num)).c), .int .i64 ((sRing (rMul x.num y.num)).d)], .int .i64 (x.exp + y.exp)]) hf rfl ff_233 (F233 _ (sRing (rMul x.num y.num)) (x.exp + y.exp) (by omega))) (fun _ _ h => ⟨fun _ => by obtain ⟨rfl, hE⟩ := h; exact Keep.of_below hE, h⟩)) ?_; rintro a _ w9 ⟨rfl, hE⟩ hf
 replace hBV := hBV.below hE
 replace hB2 := hB2.below hE
 replace hB3 := hB3.below hE
 replace hB4 := hB4.below hE
 replace hW := ktr hW hE
 clear hE
 refine s_one 13 (by kernel_rfl) ?_
 refine p_eff0 rfl hf trivial rfl (Ef.mono (ef_store (vs := [.int .i64 ((dLow (sRing (rMul x.num y.num)) (x.exp + y.exp)).num.a), .int .i64 ((dLow (sRing (rMul x.num y.num)) (x.exp + y.exp)).num.b), .int .i64 ((dLow (sRing (rMul x.num y.num)) (x.exp + y.exp)).num.c), .int .i64 ((dLow (sRing (rMul x.num y.num)) (x.exp + y.exp)).num.d), .int .i64 ((dLow (sRing (rMul x.num y.num)) (x.exp + y.exp)).exp)]) (l' := [.int .i64 ((dLow (sRing (rMul x.num y.num)) (x.exp + y.exp)).num.a), .int .i64 ((dLow (sRing (rMul x.num y.num)) (x.exp + y.exp)).num.b), .int .i64 ((dLow (sRing (rMul x.num y.num)) (x.exp + y.exp)).num.c), .int .i64 ((dLow (sRing (rMul x.num y.num)) (x.exp + y.exp)).num.d), .int .i64 ((dLow (sRing (rMul x.num y.num)) (x.exp + y.exp)).exp)]) hf rfl rfl sz_189 hB4 rfl rfl rfl rfl rfl) (fun _ _ h => ⟨fun h0 => absurd h0 (by decide), h⟩)) ?_; rintro a _ w10 ⟨ho, hb⟩ hf
 have hold := hB4
 replace hBV := hBV.only ho (Blk.ne hBV hold rfl)
 replace hB2 := hB2.only ho (by omega)
 replace hB3 := hB3.only ho (by omega)
 replace hW := Kept.only hW ho hlo4
 clear hold
 have hB4 := hb
 clear hb ho
 refine s_done (by kernel_rfl) ?_
 refine hK10 _ _ ?_; try clear hK10 K10
 refine wp_ret ?_
 refine c_ret hf (res1 hf rfl (ResV.cellN (l := [.int .i64 ((dLow (sRing (rMul x.num y.num)) (x.exp + y.exp)).num.a), .int .i64 ((dLow (sRing (rMul x.num y.num)) (x.exp + y.exp)).num.b), .int .i64 ((dLow (sRing (rMul x.num y.num)) (x.exp + y.exp)).num.c), .int .i64 ((dLow (sRing (rMul x.num y.num)) (x.exp + y.exp)).num.d), .int .i64 ((dLow (sRing (rMul x.num y.num)) (x.exp + y.exp)).exp)]) rfl tN_189 (hB4.at 0) rfl)) ?_
 exact ⟨by rw [sMul, if_neg hm], hW, by rw [sMul, if_neg hm]; exact hBV⟩
theorem F201 (w0 : World) (bV : Nat) (f : Bool) (hBV : Blk w0 bV 194 [.bool f]) (x : Dy) (y : Dy) (hx : 0 ≤ x.exp ∧ x.exp ≤ 60) (hy : 0 ≤ y.exp ∧ y.exp ≤ 60) : Ret Tryz.prog 201 [.pointer (some ⟨bV, 0, none⟩), .agg #[.int .i64 x.num.a, .int .i64 x.num.b, .int .i64 x.num.c, .int .i64 x.num.d, .int .i64 x.exp], .agg #[.int .i64 y.num.a, .int .i64 y.num.b, .int .i64 y.num.c, .int .i64 y.num.d, .int .i64 y.exp]] w0 (fun v w => v = dV ((sAdd f x y).2) ∧ Kept bV w0.heap.size w0 w ∧ Blk w bV 194 [.bool ((sAdd f x y).1)]) := by
 have hltV := hBV.lt
 refine enter Tryz.func201 rfl 45 rfl rfl ?_
 intro a hf
 have hW : Kept bV w0.heap.size w0 w0 := Kept.refl _ _ _
 refine wp_seq_k ?_; intro K1 hK1
 refine wp_region_lit ?_
 refine l_f hf rfl (ef_box (zs := [.int .i64 x.num.a, .int .i64 x.num.b, .int .i64 x.num.c, .int .i64 x.num.d, .int .i64 x.exp]) hf rfl rfl) ?_; rintro a _ w1 ⟨b2, rfl, hl2, hE, hB2⟩ hf
 have hlo2 := Nat.le_trans hW.size hl2
 replace hBV := hBV.below hE
 replace hW := ktr hW hE
 clear hE
 refine l_f hf rfl (ef_box (zs := [.int .i64 y.num.a, .int .i64 y.num.b, .int .i64 y.num.c, .int .i64 y.num.d, .int .i64 y.exp]) hf rfl rfl) ?_; rintro a _ w2 ⟨b3, rfl, hl3, hE, hB3⟩ hf
 have hne2_3 : b2 ≠ b3 := by have := hB2.lt; omega
 have hlo3 := Nat.le_trans hW.size hl3
 replace hBV := hBV.below hE
 replace hB2 := hB2.below hE
 replace hW := ktr hW hE
 clear hE
 refine l_f hf rfl (ef_alloc (zs := [.int .i64 0, .int .i64 0, .int .i64 0, .int .i64 0, .int .i64 0]) z_189 rfl) ?_; rintro a _ w3 ⟨b4, rfl, hl4, hE, hB4⟩ hf
 have hne2_4 : b2 ≠ b4 := by have := hB2.lt; omega
 have hne3_4 : b3 ≠ b4 := by have := hB3.lt; omega
 have hlo4 := Nat.le_trans hW.size hl4
 replace hBV := hBV.below hE
 replace hB2 := hB2.below hE
 replace hB3 := hB3.below hE
 replace hW := ktr hW hE
 clear hE
 refine wpList_nil ?_
 refine hK1 _ _ ?_; try clear hK1 K1
 refine wp_seq_k ?_; intro K5 hK5
 refine wp_block ?_
 refine c_loop (σ := Bool × Dy) (fun (s : Bool × Dy) (a : Act) (w : World) => match s with | (f1, x1) => Fr a 45 [(0, .pointer (some ⟨bV, 0, none⟩)), (4, .pointer (some ⟨b2, 0, none⟩)), (5, .pointer (some ⟨b3, 0, none⟩)), (6, .pointer (some ⟨b4, 0, none⟩))] ∧ (sRaiseN (y.exp - x1.exp).toNat f1 x1 = sRaiseN (y.exp - x.exp).toNat f x) ∧ (0 ≤ x1.exp ∧ x1.exp ≤ 60) ∧ Blk w bV 194 [.bool f1] ∧ Blk w b2 189 [.int .i64 x1.num.a, .int .i64 x1.num.b, .int .i64 x1.num.c, .int .i64 x1.num.d, .int .i64 x1.exp] ∧ Blk w b3 189 [.int .i64 y.num.a, .int .i64 y.num.b, .int .i64 y.num.c, .int .i64 y.num.d, .int .i64 y.exp] ∧ Blk w b4 189 [.int .i64 0, .int .i64 0, .int .i64 0, .int .i64 0, .int .i64 0] ∧ Kept bV w0.heap.size w0 w) (fun (s : Bool × Dy) => match s with | (f1, x1) => (y.exp - x1.exp).toNat) (f, x) ?_ ?_
 · exact ⟨hf.sub ⟨rfl, rfl, rfl, rfl, trivial⟩, rfl, hx, hBV, hB2, hB3, hB4, hW⟩
 rintro ⟨f1, x1⟩ a w4 ⟨hf, hinv, hx60, hBV, hB2, hB3, hB4, hW⟩
 refine wp_seq_k ?_; intro K6 hK6
 refine wp_seq_k ?_; intro K7 hK7
 refine wp_region_lit ?_
 refine l_e hf rfl (ev_fieldB hf rfl fd_189_1 (m := 4) rfl) ?_; intro a hf
 refine l_e hf rfl (ev_load1 hf rfl t1_3 (hB2.at 4)) ?_; intro a hf
 refine l_e hf rfl (ev_fieldB hf rfl fd_189_1 (m := 4) rfl) ?_; intro a hf
 refine l_e hf rfl (ev_load1 hf rfl t1_3 (hB3.at 4)) ?_; intro a hf
 refine l_e hf rfl (ev_lss hf rfl rfl) ?_; intro a hf
 refine wpList_nil ?_
 refine hK7 _ _ ?_; try clear hK7 K7
 refine c_if hf rfl (fun hc8 => ?_) (fun hc8 => ?_)
 ·have hc8b := hc8
  have hc8 := of_decide_eq_true hc8
  have hlt : x1.exp < y.exp := hc8
  refine wp_skip ?_
  refine hK6 _ _ ?_; try clear hK6 K6
  refine wp_block ?_
  refine wp_draw (some bV) (fun j => [9].contains j) mixed ?_
  intro w5 hE
  replace hBV := hBV.below hE
  replace hB2 := hB2.below hE
  replace hB3 := hB3.below hE
  replace hB4 := hB4.below hE
  replace hW := ktr hW hE
  clear hE
  refine s_e0 0 rfl (by kernel_rfl) hf rfl (fun _ => ev_move hf rfl) ?_; intro a hf
  refine s_e0 1 rfl (by kernel_rfl) hf rfl (fun _ => ev_fieldB hf rfl fd_189_0 (m := 0) rfl) ?_; intro a hf
  refine s_evV 2 rfl (by kernel_rfl) (by kernel_rfl) hf trivial rfl rfl (fun w1 h1 => ev_loadN (l := [.int .i64 x1.num.a, .int .i64 x1.num.b, .int .i64 x1.num.c, .int .i64 x1.num.d]) hf rfl tN_187 (((hB2.only h1 (Blk.ne hB2 hBV rfl)).at 0).take 4) rfl) ?_; intro a hf
  refine s_e0 5 rfl (by kernel_rfl) hf rfl (fun _ => ev_fieldB hf rfl fd_189_1 (m := 4) rfl) ?_; intro a hf
  refine s_evV 6 rfl (by kernel_rfl) (by kernel_rfl) hf trivial rfl rfl (fun w1 h1 => ev_load1 hf rfl t1_3 ((hB2.only h1 (Blk.ne hB2 hBV rfl)).at 4)) ?_; intro a hf
  refine s_e0 7 rfl (by kernel_rfl) hf rfl (fun _ => ev_addx hf rfl rfl (by omega) (by omega)) ?_; intro a hf
  refine s_one 3 (by kernel_rfl) ?_
  refine p_eff rfl hf trivial rfl rfl (Ef.mono (ef_call (vs := [.agg #[.int .i64 x1.num.a, .int .i64 x1.num.b, .int .i64 x1.num.c, .int .i64 x1.num.d]]) hf rfl ff_232 (F232 _ x1.num)) (fun _ _ h => ⟨fun _ => by obtain ⟨rfl, hE⟩ := h; exact Keep.of_below hE, h⟩)) ?_; rintro a _ w6 ⟨rfl, hE⟩ hf
  replace hBV := hBV.below hE
  replace hB2 := hB2.below hE
  replace hB3 := hB3.below hE
  replace hB4 := hB4.below hE
  replace hW := ktr hW hE
  clear hE
  refine s_one 4 (by kernel_rfl) ?_
  refine p_eff rfl hf trivial rfl rfl (Ef.mono (ef_call (vs := [.pointer (some ⟨bV, 0, none⟩), .agg #[.int .i64 ((rRoot x1.num).a), .int .i64 ((rRoot x1.num).b), .int .i64 ((rRoot x1.num).c), .int .i64 ((rRoot x1.num).d)]]) hf rfl ff_231 (F231 _ bV f1 hBV (rRoot x1.num))) (fun _ _ h => ⟨fun _ => by obtain ⟨rfl, hK, hbn⟩ := h; exact hK.keep, h⟩)) ?_; rintro a _ w7 ⟨rfl, hK, hbn⟩ hf
  obtain ⟨wm, hO, hm, hE⟩ := hK.mid; clear hm
  have hold := hBV
  replace hB2 := hB2.only hO (Blk.ne hB2 hold rfl)
  replace hB3 := hB3.only hO (Blk.ne hB3 hold rfl)
  replace hB4 := hB4.only hO (Blk.ne hB4 hold rfl)
  replace hW := hW.self hO
  replace hB2 := hB2.below hE
  replace hB3 := hB3.below hE
  replace hB4 := hB4.below hE
  replace hW := ktr hW hE
  clear hold hE hO hK; replace hBV := hbn; clear hbn
  refine s_e0 8 rfl (by kernel_rfl) hf rfl (fun _ => ev_build (ps := [(0, .agg #[.int .i64 ((sRing (rRoot x1.num)).a), .int .i64 ((sRing (rRoot x1.num)).b), .int .i64 ((sRing (rRoot x1.num)).c), .int .i64 ((sRing (rRoot x1.num)).d)]), (1, .int .i64 (x1.exp + 1))]) (cs := [.int .i64 ((sRing (rRoot x1.num)).a), .int .i64 ((sRing (rRoot x1.num)).b), .int .i64 ((sRing (rRoot x1.num)).c), .int .i64 ((sRing (rRoot x1.num)).d), .int .i64 (x1.exp + 1)]) hf rfl (fun _ => by first | rfl | kernel_rfl)) ?_; intro a hf
  refine s_one 9 (by kernel_rfl) ?_
  refine p_eff0 rfl hf trivial rfl (Ef.mono (ef_store (vs := [.int .i64 ((sRing (rRoot x1.num)).a), .int .i64 ((sRing (rRoot x1.num)).b), .int .i64 ((sRing (rRoot x1.num)).c), .int .i64 ((sRing (rRoot x1.num)).d), .int .i64 (x1.exp + 1)]) (l' := [.int .i64 ((sRing (rRoot x1.num)).a), .int .i64 ((sRing (rRoot x1.num)).b), .int .i64 ((sRing (rRoot x1.num)).c), .int .i64 ((sRing (rRoot x1.num)).d), .int .i64 (x1.exp + 1)]) hf rfl rfl sz_189 hB2 rfl rfl rfl rfl rfl) (fun _ _ h => ⟨fun h0 => absurd h0 (by decide), h⟩)) ?_; rintro a _ w8 ⟨ho, hb⟩ hf
  have hold := hB2
  replace hBV := hBV.only ho (Blk.ne hBV hold rfl)
  replace hB3 := hB3.only ho (by omega)
  replace hB4 := hB4.only ho (by omega)
  replace hW := Kept.only hW ho hlo2
  clear hold
  have hB2 := hb
  clear hb ho
  refine s_done (by kernel_rfl) ?_
  refine x_norm ?_
  refine x_thenN ?_
  exact ⟨(f1 || !rOk (rRoot x1.num), ⟨sRing (rRoot x1.num), x1.exp + 1⟩), ⟨hf.sub ⟨rfl, rfl, rfl, rfl, trivial⟩, (sRaise_step hinv hlt), (by dsimp only; omega), hBV, hB2, hB3, hB4, hW⟩, (by first | omega | (dsimp only; omega))⟩
 have hc8b := hc8
 have hc8 := of_decide_eq_false hc8
 have hx1 := sRaise_done hinv hc8
 refine wp_exit ?_
 refine x_exS ?_
 refine x_exS ?_
 refine x_exit ?_
 refine hK5 _ _ ?_; try clear hK5 K5
 refine wp_seq_k ?_; intro K9 hK9
 refine wp_block ?_
 refine c_loop (σ := Bool × Dy) (fun (s : Bool × Dy) (a : Act) (w : World) => match s with | (f2, y1) => Fr a 45 [(0, .pointer (some ⟨bV, 0, none⟩)), (4, .pointer (some ⟨b2, 0, none⟩)), (5, .pointer (some ⟨b3, 0, none⟩)), (6, .pointer (some ⟨b4, 0, none⟩))] ∧ (sRaiseN (x1.exp - y1.exp).toNat f2 y1 = sRaiseN (x1.exp - y.exp).toNat f1 y) ∧ (0 ≤ y1.exp ∧ y1.exp ≤ 60) ∧ Blk w bV 194 [.bool f2] ∧ Blk w b2 189 [.int .i64 x1.num.a, .int .i64 x1.num.b, .int .i64 x1.num.c, .int .i64 x1.num.d, .int .i64 x1.exp] ∧ Blk w b3 189 [.int .i64 y1.num.a, .int .i64 y1.num.b, .int .i64 y1.num.c, .int .i64 y1.num.d, .int .i64 y1.exp] ∧ Blk w b4 189 [.int .i64 0, .int .i64 0, .int .i64 0, .int .i64 0, .int .i64 0] ∧ Kept bV w0.heap.size w0 w) (fun (s : Bool × Dy) => match s with | (f2, y1) => (x1.exp - y1.exp).toNat) (f1, y) ?_ ?_
 · exact ⟨hf.sub ⟨rfl, rfl, rfl, rfl, trivial⟩, rfl, hy, hBV, hB2, hB3, hB4, hW⟩
 rintro ⟨f2, y1⟩ a w9 ⟨hf, hinv2, hy60, hBV, hB2, hB3, hB4, hW⟩
 refine wp_seq_k ?_; intro K10 hK10
 refine wp_seq_k ?_; intro K11 hK11
 refine wp_region_lit ?_
 refine l_e hf rfl (ev_fieldB hf rfl fd_189_1 (m := 4) rfl) ?_; intro a hf
 refine l_e hf rfl (ev_load1 hf rfl t1_3 (hB3.at 4)) ?_; intro a hf
 refine l_e hf rfl (ev_fieldB hf rfl fd_189_1 (m := 4) rfl) ?_; intro a hf
 refine l_e hf rfl (ev_load1 hf rfl t1_3 (hB2.at 4)) ?_; intro a hf
 refine l_e hf rfl (ev_lss hf rfl rfl) ?_; intro a hf
 refine wpList_nil ?_
 refine hK11 _ _ ?_; try clear hK11 K11
 refine c_if hf rfl (fun hc12 => ?_) (fun hc12 => ?_)
 ·have hc12b := hc12
  have hc12 := of_decide_eq_true hc12
  have hlt : y1.exp < x1.exp := hc12
  refine wp_skip ?_
  refine hK10 _ _ ?_; try clear hK10 K10
  refine wp_block ?_
  refine wp_draw (some bV) (fun j => [9].contains j) mixed ?_
  intro w10 hE
  replace hBV := hBV.below hE
  replace hB2 := hB2.below hE
  replace hB3 := hB3.below hE
  replace hB4 := hB4.below hE
  replace hW := ktr hW hE
  clear hE
  refine s_e0 0 rfl (by kernel_rfl) hf rfl (fun _ => ev_move hf rfl) ?_; intro a hf
  refine s_e0 1 rfl (by kernel_rfl) hf rfl (fun _ => ev_fieldB hf rfl fd_189_0 (m := 0) rfl) ?_; intro a hf
  refine s_evV 2 rfl (by kernel_rfl) (by kernel_rfl) hf trivial rfl rfl (fun w1 h1 => ev_loadN (l := [.int .i64 y1.num.a, .int .i64 y1.num.b, .int .i64 y1.num.c, .int .i64 y1.num.d]) hf rfl tN_187 (((hB3.only h1 (Blk.ne hB3 hBV rfl)).at 0).take 4) rfl) ?_; intro a hf
  refine s_e0 5 rfl (by kernel_rfl) hf rfl (fun _ => ev_fieldB hf rfl fd_189_1 (m := 4) rfl) ?_; intro a hf
  refine s_evV 6 rfl (by kernel_rfl) (by kernel_rfl) hf trivial rfl rfl (fun w1 h1 => ev_load1 hf rfl t1_3 ((hB3.only h1 (Blk.ne hB3 hBV rfl)).at 4)) ?_; intro a hf
  refine s_e0 7 rfl (by kernel_rfl) hf rfl (fun _ => ev_addx hf rfl rfl (by omega) (by omega)) ?_; intro a hf
  refine s_one 3 (by kernel_rfl) ?_
  refine p_eff rfl hf trivial rfl rfl (Ef.mono (ef_call (vs := [.agg #[.int .i64 y1.num.a, .int .i64 y1.num.b, .int .i64 y1.num.c, .int .i64 y1.num.d]]) hf rfl ff_232 (F232 _ y1.num)) (fun _ _ h => ⟨fun _ => by obtain ⟨rfl, hE⟩ := h; exact Keep.of_below hE, h⟩)) ?_; rintro a _ w11 ⟨rfl, hE⟩ hf
  replace hBV := hBV.below hE
  replace hB2 := hB2.below hE
  replace hB3 := hB3.below hE
  replace hB4 := hB4.below hE
  replace hW := ktr hW hE
  clear hE
  refine s_one 4 (by kernel_rfl) ?_
  refine p_eff rfl hf trivial rfl rfl (Ef.mono (ef_call (vs := [.pointer (some ⟨bV, 0, none⟩), .agg #[.int .i64 ((rRoot y1.num).a), .int .i64 ((rRoot y1.num).b), .int .i64 ((rRoot y1.num).c), .int .i64 ((rRoot y1.num).d)]]) hf rfl ff_231 (F231 _ bV f2 hBV (rRoot y1.num))) (fun _ _ h => ⟨fun _ => by obtain ⟨rfl, hK, hbn⟩ := h; exact hK.keep, h⟩)) ?_; rintro a _ w12 ⟨rfl, hK, hbn⟩ hf
  obtain ⟨wm, hO, hm, hE⟩ := hK.mid; clear hm
  have hold := hBV
  replace hB2 := hB2.only hO (Blk.ne hB2 hold rfl)
  replace hB3 := hB3.only hO (Blk.ne hB3 hold rfl)
  replace hB4 := hB4.only hO (Blk.ne hB4 hold rfl)
  replace hW := hW.self hO
  replace hB2 := hB2.below hE
  replace hB3 := hB3.below hE
  replace hB4 := hB4.below hE
  replace hW := ktr hW hE
  clear hold hE hO hK; replace hBV := hbn; clear hbn
  refine s_e0 8 rfl (by kernel_rfl) hf rfl (fun _ => ev_build (ps := [(0, .agg #[.int .i64 ((sRing (rRoot y1.num)).a), .int .i64 ((sRing (rRoot y1.num)).b), .int .i64 ((sRing (rRoot y1.num)).c), .int .i64 ((sRing (rRoot y1.num)).d)]), (1, .int .i64 (y1.exp + 1))]) (cs := [.int .i64 ((sRing (rRoot y1.num)).a), .int .i64 ((sRing (rRoot y1.num)).b), .int .i64 ((sRing (rRoot y1.num)).c), .int .i64 ((sRing (rRoot y1.num)).d), .int .i64 (y1.exp + 1)]) hf rfl (fun _ => by first | rfl | kernel_rfl)) ?_; intro a hf
  refine s_one 9 (by kernel_rfl) ?_
  refine p_eff0 rfl hf trivial rfl (Ef.mono (ef_store (vs := [.int .i64 ((sRing (rRoot y1.num)).a), .int .i64 ((sRing (rRoot y1.num)).b), .int .i64 ((sRing (rRoot y1.num)).c), .int .i64 ((sRing (rRoot y1.num)).d), .int .i64 (y1.exp + 1)]) (l' := [.int .i64 ((sRing (rRoot y1.num)).a), .int .i64 ((sRing (rRoot y1.num)).b), .int .i64 ((sRing (rRoot y1.num)).c), .int .i64 ((sRing (rRoot y1.num)).d), .int .i64 (y1.exp + 1)]) hf rfl rfl sz_189 hB3 rfl rfl rfl rfl rfl) (fun _ _ h => ⟨fun h0 => absurd h0 (by decide), h⟩)) ?_; rintro a _ w13 ⟨ho, hb⟩ hf
  have hold := hB3
  replace hBV := hBV.only ho (Blk.ne hBV hold rfl)
  replace hB2 := hB2.only ho (by omega)
  replace hB4 := hB4.only ho (by omega)
  replace hW := Kept.only hW ho hlo3
  clear hold
  have hB3 := hb
  clear hb ho
  refine s_done (by kernel_rfl) ?_
  refine x_norm ?_
  refine x_thenN ?_
  exact ⟨(f2 || !rOk (rRoot y1.num), ⟨sRing (rRoot y1.num), y1.exp + 1⟩), ⟨hf.sub ⟨rfl, rfl, rfl, rfl, trivial⟩, (sRaise_step hinv2 hlt), (by dsimp only; omega), hBV, hB2, hB3, hB4, hW⟩, (by first | omega | (dsimp only; omega))⟩
 have hc12b := hc12
 have hc12 := of_decide_eq_false hc12
 have hy1 := sRaise_done hinv2 hc12
 refine wp_exit ?_
 refine x_exS ?_
 refine x_exS ?_
 refine x_exit ?_
 refine hK9 _ _ ?_; try clear hK9 K9
 refine wp_seq_k ?_; intro K13 hK13
 refine wp_draw (some bV) (fun j => [10].contains j) mixed ?_
 intro w14 hE
 replace hBV := hBV.below hE
 replace hB2 := hB2.below hE
 replace hB3 := hB3.below hE
 replace hB4 := hB4.below hE
 replace hW := ktr hW hE
 clear hE
 refine s_e0 0 rfl (by kernel_rfl) hf rfl (fun _ => ev_move hf rfl) ?_; intro a hf
 refine s_e0 1 rfl (by kernel_rfl) hf rfl (fun _ => ev_fieldB hf rfl fd_189_0 (m := 0) rfl) ?_; intro a hf
 refine s_evV 2 rfl (by kernel_rfl) (by kernel_rfl) hf trivial rfl rfl (fun w1 h1 => ev_loadN (l := [.int .i64 x1.num.a, .int .i64 x1.num.b, .int .i64 x1.num.c, .int .i64 x1.num.d]) hf rfl tN_187 (((hB2.only h1 (Blk.ne hB2 hBV rfl)).at 0).take 4) rfl) ?_; intro a hf
 refine s_e0 3 rfl (by kernel_rfl) hf rfl (fun _ => ev_fieldB hf rfl fd_189_0 (m := 0) rfl) ?_; intro a hf
 refine s_evV 4 rfl (by kernel_rfl) (by kernel_rfl) hf trivial rfl rfl (fun w1 h1 => ev_loadN (l := [.int .i64 y1.num.a, .int .i64 y1.num.b, .int .i64 y1.num.c, .int .i64 y1.num.d]) hf rfl tN_187 (((hB3.only h1 (Blk.ne hB3 hBV rfl)).at 0).take 4) rfl) ?_; intro a hf
 refine s_e0 7 rfl (by kernel_rfl) hf rfl (fun _ => ev_fieldB hf rfl fd_189_1 (m := 4) rfl) ?_; intro a hf
 refine s_evV 8 rfl (by kernel_rfl) (by kernel_rfl) hf trivial rfl rfl (fun w1 h1 => ev_load1 hf rfl t1_3 ((hB2.only h1 (Blk.ne hB2 hBV rfl)).at 4)) ?_; intro a hf
 refine s_one 5 (by kernel_rfl) ?_
 refine p_eff rfl hf trivial rfl rfl (Ef.mono (ef_call (vs := [.agg #[.int .i64 x1.num.a, .int .i64 x1.num.b, .int .i64 x1.num.c, .int .i64 x1.num.d], .agg #[.int .i64 y1.num.a, .int .i64 y1.num.b, .int .i64 y1.num.c, .int .i64 y1.num.d]]) hf rfl ff_234 (F234 _ x1.num y1.num)) (fun _ _ h => ⟨fun _ => by obtain ⟨rfl, hE⟩ := h; exact Keep.of_below hE, h⟩)) ?_; rintro a _ w15 ⟨rfl, hE⟩ hf
 replace hBV := hBV.below hE
 replace hB2 := hB2.below hE
 replace hB3 := hB3.below hE
 replace hB4 := hB4.below hE
 replace hW := ktr hW hE
 clear hE
 refine s_one 6 (by kernel_rfl) ?_
 refine p_eff rfl hf trivial rfl rfl (Ef.mono (ef_call (vs := [.pointer (some ⟨bV, 0, none⟩), .agg #[.int .i64 ((rAdd x1.num y1.num).a), .int .i64 ((rAdd x1.num y1.num).b), .int .i64 ((rAdd x1.num y1.num).c), .int .i64 ((rAdd x1.num y1.num).d)]]) hf rfl ff_231 (F231 _ bV f2 hBV (rAdd x1.num y1.num))) (fun _ _ h => ⟨fun _ => by obtain ⟨rfl, hK, hbn⟩ := h; exact hK.keep, h⟩)) ?_; rintro a _ w16 ⟨rfl, hK, hbn⟩ hf
 obtain ⟨wm, hO, hm, hE⟩ := hK.mid; clear hm
 have hold := hBV
 replace hB2 := hB2.only hO (Blk.ne hB2 hold rfl)
 replace hB3 := hB3.only hO (Blk.ne hB3 hold rfl)
 replace hB4 := hB4.only hO (Blk.ne hB4 hold rfl)
 replace hW := hW.self hO
 replace hB2 := hB2.below hE
 replace hB3 := hB3.below hE
 replace hB4 := hB4.below hE
 replace hW := ktr hW hE
 clear hold hE hO hK; replace hBV := hbn; clear hbn
 refine s_one 9 (by kernel_rfl) ?_
 refine p_eff rfl hf trivial rfl rfl (Ef.mono (ef_call (vs := [.agg #[.int .i64 ((sRing (rAdd x1.num y1.num)).a), .int .i64 ((sRing (rAdd x1.num y1.num)).b), .int .i64 ((sRing (rAdd x1.num y1.num)).c), .int .i64 ((sRing (rAdd x1.num y1.num)).d)], .int .i64 x1.exp]) hf rfl ff_233 (F233 _ (sRing (rAdd x1.num y1.num)) x1.exp (by omega))) (fun _ _ h => ⟨fun _ => by obtain ⟨rfl, hE⟩ := h; exact Keep.of_below hE, h⟩)) ?_; rintro a _ w17 ⟨rfl, hE⟩ hf
 replace hBV := hBV.below hE
 replace hB2 := hB2.below hE
 replace hB3 := hB3.below hE
 replace hB4 := hB4.below hE
 replace hW := ktr hW hE
 clear hE
 refine s_one 10 (by kernel_rfl) ?_
 refine p_eff0 rfl hf trivial rfl (Ef.mono (ef_store (vs := [.int .i64 ((dLow (sRing (rAdd x1.num y1.num)) x1.exp).num.a), .int .i64 ((dLow (sRing (rAdd x1.num y1.num)) x1.exp).num.b), .int .i64 ((dLow (sRing (rAdd x1.num y1.num)) x1.exp).num.c), .int .i64 ((dLow (sRing (rAdd x1.num y1.num)) x1.exp).num.d), .int .i64 ((dLow (sRing (rAdd x1.num y1.num)) x1.exp).exp)]) (l' := [.int .i64 ((dLow (sRing (rAdd x1.num y1.num)) x1.exp).num.a), .int .i64 ((dLow (sRing (rAdd x1.num y1.num)) x1.exp).num.b), .int .i64 ((dLow (sRing (rAdd x1.num y1.num)) x1.exp).num.c), .int .i64 ((dLow (sRing (rAdd x1.num y1.num)) x1.exp).num.d), .int .i64 ((dLow (sRing (rAdd x1.num y1.num)) x1.exp).exp)]) hf rfl rfl sz_189 hB4 rfl rfl rfl rfl rfl) (fun _ _ h => ⟨fun h0 => absurd h0 (by decide), h⟩)) ?_; rintro a _ w18 ⟨ho, hb⟩ hf
 have hold := hB4
 replace hBV := hBV.only ho (Blk.ne hBV hold rfl)
 replace hB2 := hB2.only ho (by omega)
 replace hB3 := hB3.only ho (by omega)
 replace hW := Kept.only hW ho hlo4
 clear hold
 have hB4 := hb
 clear hb ho
 refine s_done (by kernel_rfl) ?_
 refine hK13 _ _ ?_; try clear hK13 K13
 refine wp_ret ?_
 refine c_ret hf (res1 hf rfl (ResV.cellN (l := [.int .i64 ((dLow (sRing (rAdd x1.num y1.num)) x1.exp).num.a), .int .i64 ((dLow (sRing (rAdd x1.num y1.num)) x1.exp).num.b), .int .i64 ((dLow (sRing (rAdd x1.num y1.num)) x1.exp).num.c), .int .i64 ((dLow (sRing (rAdd x1.num y1.num)) x1.exp).num.d), .int .i64 ((dLow (sRing (rAdd x1.num y1.num)) x1.exp).exp)]) rfl tN_189 (hB4.at 0) rfl)) ?_
 exact ⟨by rw [sAdd, hx1]; dsimp only; rw [hy1], hW, by rw [sAdd, hx1]; dsimp only; rw [hy1]; exact hBV⟩
end Go.Proofs.YtfgnmflfiobkmaaGreat
