/-
  What is proved: for every number and every replacement, the program's IsJustified returns what the reference's returns, and the arguments read as before. Conditions: none.
-/
import Derived.Test.YtfgnmflfiobkmaaGreatP5
import Derived.Test.YtfgnmflfiobkmaaGreatP4
import Derived.Deep.Strs
import Derived.WalkKit
import Derived.ProofKit
import Derived.OpenShut
import Derived.Deep.Slices
import Derived.Deep.Fields
import Derived.ChangeSame
import Derived.Lib.SmallJoins
import Derived.Test.YtfgnmflfiobkmaaGreatRows
set_option maxRecDepth 4000
namespace Go.Proofs.YtfgnmflfiobkmaaGreat
open Go.RowKit
theorem F42 (w0 : World) {X_l : TypeId} (Al : Option Addr) (cl : Nat) (l : List Gt) (hr_l : Rd w0 w0.heap.size X_l encG Al l) (t : Int) (ht : 0 ≤ t ∧ t ≤ 1048576) (hln : l.length ≤ 9223372036854775807) : Ret Tryz.prog 42 [.slice Al l.length cl, .int .i64 t] w0 (fun v w => v = .int .i64 (szG l t) ∧ w0 = w) := by
 refine enter Tryz.func42 rfl 12 rfl rfl ?_
 intro a hf
 have hW : Below w0.heap.size w0 w0 := Below.refl _ _
 refine wp_seq_k ?_; intro K2 hK2
 refine wp_region_lit ?_
 refine l_ev hf trivial rfl rfl (ev_assign hf rfl) ?_; intro a hf
 refine wpList_nil ?_
 refine hK2 _ _ ?_; try clear hK2 K2
 refine wp_seq_k ?_; intro K3 hK3
 refine wp_region_lit ?_
 refine l_ev hf trivial rfl rfl (ev_move hf rfl) ?_; intro a hf
 refine l_ev hf trivial rfl rfl (ev_move hf rfl) ?_; intro a hf
 refine l_ev hf trivial rfl rfl (ev_len hf rfl sl_22) ?_; intro a hf
 refine l_ev hf trivial rfl rfl (ev_subx hf rfl rfl (by omega) (by omega)) ?_; intro a hf
 refine l_ev hf trivial rfl rfl (ev_assign hf rfl) ?_; intro a hf
 refine wpList_nil ?_
 refine hK3 _ _ ?_; try clear hK3 K3
 refine wp_seq_k ?_; intro K4 hK4
 refine wp_seq_k ?_; intro K5 hK5
 refine wp_region_lit ?_
 refine l_ev hf trivial rfl rfl (ev_move hf rfl) ?_; intro a hf
 refine l_ev hf trivial rfl rfl (ev_lss hf rfl rfl) ?_; intro a hf
 refine wpList_nil ?_
 refine hK5 _ _ ?_; try clear hK5 K5
 refine c_if hf rfl (fun hc6 => ?_) (fun hc6 => ?_)
 ·have hc6b := hc6
  have hc6 := of_decide_eq_true hc6
  have hfin : szG l t = -1 := by rw [szG, if_pos hc6]
  refine wp_seq_k ?_; intro K7 hK7
  refine wp_region_lit ?_
  refine l_ev hf trivial rfl rfl (ev_assign hf rfl) ?_; intro a hf
  refine wpList_nil ?_
  refine hK7 _ _ ?_; try clear hK7 K7
  refine wp_ret ?_
  refine x_retS ?_
  refine c_ret hf (res1 hf rfl rfl) ?_
  exact ⟨by rw [hfin], rfl⟩
 ·have hc6b := hc6
  have hc6 := of_decide_eq_false hc6
  have hfin : szG l t = t - (l.length : Int) := by rw [szG, if_neg hc6]
  refine wp_skip ?_
  refine hK4 _ _ ?_; try clear hK4 K4
  refine wp_seq_k ?_; intro K8 hK8
  refine wp_region_lit ?_
  refine l_ev hf trivial rfl rfl (ev_move hf rfl) ?_; intro a hf
  refine l_ev hf trivial rfl rfl (ev_assign hf rfl) ?_; intro a hf
  refine wpList_nil ?_
  refine hK8 _ _ ?_; try clear hK8 K8
  refine wp_ret ?_
  refine c_ret hf (res1 hf rfl rfl) ?_
  exact ⟨by rw [hfin], rfl⟩
theorem F9 (w0 : World) {Xr Yr : TypeId} (r : Rp) (Ar : Option Addr) (cr : Nat) (hr_r : Rd w0 w0.heap.size Xr encG Ar r.old) (Br : Option Addr) (dr : Nat) (hs_r : Rd w0 w0.heap.size Yr encG Br r.new) (t : Int) (ht : 0 ≤ t ∧ t ≤ 1048576) (hla : r.old.length ≤ 9223372036854775807) (hlb : r.new.length ≤ 9223372036854775807) : Ret Tryz.prog 9 [.agg #[.int .i64 r.pos, .slice Ar r.old.length cr, .slice Br r.new.length dr], .int .i64 t] w0 (fun v w => v = .int .i64 (szR r t) ∧ Below w0.heap.size w0 w) := by
 refine enter Tryz.func9 rfl 18 rfl rfl ?_
 intro a hf
 have hW : Below w0.heap.size w0 w0 := Below.refl _ _
 refine wp_seq_k ?_; intro K3 hK3
 refine wp_region_lit ?_
 refine l_eff hf trivial rfl rfl (ef_box (zs := [.int .i64 r.pos, .slice Ar r.old.length cr, .slice Br r.new.length dr]) hf rfl rfl) ?_; rintro a _ w1 ⟨b4, rfl, hl4, hE, hB4⟩ hf
 have hlo4 := Nat.le_trans hW.size hl4
 replace hr_r := hr_r.below hE
 replace hs_r := hs_r.below hE
 replace hW := hW.trans (hE.mono hW.size)
 clear hE
 refine l_ev hf trivial rfl rfl (ev_assign hf rfl) ?_; intro a hf
 refine wpList_nil ?_
 refine hK3 _ _ ?_; try clear hK3 K3
 refine wp_seq_k ?_; intro K5 hK5
 refine wp_region_lit ?_
 refine l_ev hf trivial rfl rfl (ev_fieldB hf rfl fd_24_1 (m := 1) rfl) ?_; intro a hf
 refine l_ev hf trivial rfl rfl (ev_load1 hf rfl t1_22 (hB4.at 1)) ?_; intro a hf
 refine l_ev hf trivial rfl rfl (ev_move hf rfl) ?_; intro a hf
 refine l_eff hf trivial rfl rfl (ef_call (vs := [.slice Ar r.old.length cr, .int .i64 t]) hf rfl ff_42 (F42 _ Ar cr r.old hr_r.top t ht hla)) ?_; rintro a _ _ ⟨rfl, rfl⟩ hf
 refine l_ev hf trivial rfl rfl (ev_assign hf rfl) ?_; intro a hf
 refine wpList_nil ?_
 refine hK5 _ _ ?_; try clear hK5 K5
 refine wp_seq_k ?_; intro K6 hK6
 refine wp_seq_k ?_; intro K7 hK7
 refine wp_region_lit ?_
 refine l_ev hf trivial rfl rfl (ev_move hf rfl) ?_; intro a hf
 refine l_ev hf trivial rfl rfl (ev_lss hf rfl rfl) ?_; intro a hf
 refine wpList_nil ?_
 refine hK7 _ _ ?_; try clear hK7 K7
 refine c_if hf rfl (fun hc8 => ?_) (fun hc8 => ?_)
 ·have hc8b := hc8
  have hc8 := of_decide_eq_true hc8
  have hfin : szR r t = -1 := by rw [szR, if_pos hc8]
  refine wp_seq_k ?_; intro K9 hK9
  refine wp_region_lit ?_
  refine l_ev hf trivial rfl rfl (ev_assign hf rfl) ?_; intro a hf
  refine wpList_nil ?_
  refine hK9 _ _ ?_; try clear hK9 K9
  refine wp_ret ?_
  refine x_retS ?_
  refine c_ret hf (res1 hf rfl rfl) ?_
  exact ⟨by rw [hfin], hW⟩
 ·have hc8b := hc8
  have hc8 := of_decide_eq_false hc8
  have hne : ¬ szG r.old t < 0 := hc8
  refine wp_skip ?_
  refine hK6 _ _ ?_; try clear hK6 K6
  refine wp_seq_k ?_; intro K10 hK10
  refine wp_region_lit ?_
  refine l_ev hf trivial rfl rfl (ev_fieldB hf rfl fd_24_2 (m := 2) rfl) ?_; intro a hf
  refine l_ev hf trivial rfl rfl (ev_load1 hf rfl t1_22 (hB4.at 2)) ?_; intro a hf
  refine l_ev hf trivial rfl rfl (ev_move hf rfl) ?_; intro a hf
  refine l_eff hf trivial rfl rfl (ef_call (vs := [.slice Br r.new.length dr, .int .i64 (szG r.old t)]) hf rfl ff_42 (F42 _ Br dr r.new hs_r.top (szG r.old t) (by have := szG_le hne; omega) hlb)) ?_; rintro a _ _ ⟨rfl, rfl⟩ hf
  refine l_ev hf trivial rfl rfl (ev_assign hf rfl) ?_; intro a hf
  refine wpList_nil ?_
  refine hK10 _ _ ?_; try clear hK10 K10
  refine wp_seq_k ?_; intro K11 hK11
  refine wp_seq_k ?_; intro K12 hK12
  refine wp_region_lit ?_
  refine l_ev hf trivial rfl rfl (ev_move hf rfl) ?_; intro a hf
  refine l_ev hf trivial rfl rfl (ev_lss hf rfl rfl) ?_; intro a hf
  refine wpList_nil ?_
  refine hK12 _ _ ?_; try clear hK12 K12
  refine c_if hf rfl (fun hc13 => ?_) (fun hc13 => ?_)
  ·have hc13b := hc13
   have hc13 := of_decide_eq_true hc13
   have hfin : szR r t = -1 := by rw [szR, if_neg hne, if_pos hc13]
   refine wp_seq_k ?_; intro K14 hK14
   refine wp_region_lit ?_
   refine l_ev hf trivial rfl rfl (ev_assign hf rfl) ?_; intro a hf
   refine wpList_nil ?_
   refine hK14 _ _ ?_; try clear hK14 K14
   refine wp_ret ?_
   refine x_retS ?_
   refine c_ret hf (res1 hf rfl rfl) ?_
   exact ⟨by rw [hfin], hW⟩
  ·have hc13b := hc13
   have hc13 := of_decide_eq_false hc13
   have hfin : szR r t = szG r.new (szG r.old t) := by rw [szR, if_neg hne, if_neg hc13]
   refine wp_skip ?_
   refine hK11 _ _ ?_; try clear hK11 K11
   refine wp_seq_k ?_; intro K15 hK15
   refine wp_region_lit ?_
   refine l_ev hf trivial rfl rfl (ev_move hf rfl) ?_; intro a hf
   refine l_ev hf trivial rfl rfl (ev_assign hf rfl) ?_; intro a hf
   refine wpList_nil ?_
   refine hK15 _ _ ?_; try clear hK15 K15
   refine wp_ret ?_
   refine c_ret hf (res1 hf rfl rfl) ?_
   exact ⟨by rw [hfin], hW⟩
theorem F90 (w0 : World) (x : Gt) : Ret Tryz.prog 90 [.agg #[.int .i64 x.k, .int .i64 x.a, .int .i64 x.b]] w0 (fun v w => v = gV x ∧ Below w0.heap.size w0 w) := by
 refine enter Tryz.func90 rfl 14 rfl rfl ?_
 intro a hf
 have hW : Below w0.heap.size w0 w0 := Below.refl _ _
 refine wp_seq_k ?_; intro K1 hK1
 refine wp_region_lit ?_
 refine l_eff hf trivial rfl rfl (ef_box (zs := [.int .i64 x.k, .int .i64 x.a, .int .i64 x.b]) hf rfl rfl) ?_; rintro a _ w1 ⟨b2, rfl, hl2, hE, hB2⟩ hf
 have hlo2 := Nat.le_trans hW.size hl2
 replace hW := hW.trans (hE.mono hW.size)
 clear hE
 refine l_eff hf trivial rfl rfl (ef_alloc (zs := [.int .i64 0, .int .i64 0, .int .i64 0]) z_107 rfl) ?_; rintro a _ w2 ⟨b3, rfl, hl3, hE, hB3⟩ hf
 have hlo3 := Nat.le_trans hW.size hl3
 replace hB2 := hB2.below hE
 replace hW := hW.trans (hE.mono hW.size)
 clear hE
 refine wpList_nil ?_
 refine hK1 _ _ ?_; try clear hK1 K1
 refine wp_seq_k ?_; intro K4 hK4
 refine wp_region_lit ?_
 refine l_eff hf trivial rfl rfl (ef_alloc (zs := [.int .i64 0, .int .i64 0, .int .i64 0]) z_107 rfl) ?_; rintro a _ w3 ⟨b5, rfl, hl5, hE, hB5⟩ hf
 have hne3_5 : b3 ≠ b5 := by have := hB3.lt; omega
 have hlo5 := Nat.le_trans hW.size hl5
 replace hB2 := hB2.below hE
 replace hB3 := hB3.below hE
 replace hW := hW.trans (hE.mono hW.size)
 clear hE
 refine wpList_nil ?_
 refine hK4 _ _ ?_; try clear hK4 K4
 refine wp_seq_k ?_; intro K6 hK6
 refine wp_region_lit ?_
 refine l_ev hf trivial rfl rfl (ev_fieldB hf rfl fd_134_0 (m := 0) rfl) ?_; intro a hf
 refine l_ev hf trivial rfl rfl (ev_load1 hf rfl t1_3 (hB2.at 0)) ?_; intro a hf
 refine l_ev hf trivial rfl rfl (ev_fieldB hf rfl fd_107_0 (m := 0) rfl) ?_; intro a hf
 refine l_eff0 hf trivial rfl (ef_store (vs := [.int .i64 x.k]) (l' := [.int .i64 x.k, .int .i64 0, .int .i64 0]) hf rfl rfl sz_3 hB5 rfl rfl rfl rfl rfl) ?_; rintro a _ w4 ⟨ho, hb⟩ hf
 have hold := hB5
 replace hB2 := hB2.only ho (Blk.ne hB2 hold rfl)
 replace hB3 := hB3.only ho (by omega)
 replace hW := Below.only hW ho hlo5
 clear hold
 have hB5 := hb
 clear hb ho
 refine wpList_nil ?_
 refine hK6 _ _ ?_; try clear hK6 K6
 refine wp_seq_k ?_; intro K7 hK7
 refine wp_region_lit ?_
 refine l_ev hf trivial rfl rfl (ev_fieldB hf rfl fd_134_1 (m := 1) rfl) ?_; intro a hf
 refine l_ev hf trivial rfl rfl (ev_load1 hf rfl t1_3 (hB2.at 1)) ?_; intro a hf
 refine l_ev hf trivial rfl rfl (ev_fieldB hf rfl fd_107_1 (m := 1) rfl) ?_; intro a hf
 refine l_eff0 hf trivial rfl (ef_store (vs := [.int .i64 x.a]) (l' := [.int .i64 x.k, .int .i64 x.a, .int .i64 0]) hf rfl rfl sz_3 hB5 rfl rfl rfl rfl rfl) ?_; rintro a _ w5 ⟨ho, hb⟩ hf
 have hold := hB5
 replace hB2 := hB2.only ho (Blk.ne hB2 hold rfl)
 replace hB3 := hB3.only ho (by omega)
 replace hW := Below.only hW ho hlo5
 clear hold
 have hB5 := hb
 clear hb ho
 refine wpList_nil ?_
 refine hK7 _ _ ?_; try clear hK7 K7
 refine wp_seq_k ?_; intro K8 hK8
 refine wp_region_lit ?_
 refine l_ev hf trivial rfl rfl (ev_fieldB hf rfl fd_134_2 (m := 2) rfl) ?_; intro a hf
 refine l_ev hf trivial rfl rfl (ev_load1 hf rfl t1_3 (hB2.at 2)) ?_; intro a hf
 refine l_ev hf trivial rfl rfl (ev_fieldB hf rfl fd_107_2 (m := 2) rfl) ?_; intro a hf
 refine l_eff0 hf trivial rfl (ef_store (vs := [.int .i64 x.b]) (l' := [.int .i64 x.k, .int .i64 x.a, .int .i64 x.b]) hf rfl rfl sz_3 hB5 rfl rfl rfl rfl rfl) ?_; rintro a _ w6 ⟨ho, hb⟩ hf
 have hold := hB5
 replace hB2 := hB2.only ho (Blk.ne hB2 hold rfl)
 replace hB3 := hB3.only ho (by omega)
 replace hW := Below.only hW ho hlo5
 clear hold
 have hB5 := hb
 clear hb ho
 refine wpList_nil ?_
 refine hK8 _ _ ?_; try clear hK8 K8
 refine wp_seq_k ?_; intro K9 hK9
 refine wp_region_lit ?_
 refine l_ev hf trivial rfl rfl (ev_loadN (l := [.int .i64 x.k, .int .i64 x.a, .int .i64 x.b]) hf rfl tN_107 (hB5.at 0) rfl) ?_; intro a hf
 refine l_eff0 hf trivial rfl (ef_store (vs := [.int .i64 x.k, .int .i64 x.a, .int .i64 x.b]) (l' := [.int .i64 x.k, .int .i64 x.a, .int .i64 x.b]) hf rfl rfl sz_107 hB3 rfl rfl rfl rfl rfl) ?_; rintro a _ w7 ⟨ho, hb⟩ hf
 have hold := hB3
 replace hB2 := hB2.only ho (Blk.ne hB2 hold rfl)
 replace hB5 := hB5.only ho (by omega)
 replace hW := Below.only hW ho hlo3
 clear hold
 have hB3 := hb
 clear hb ho
 refine wpList_nil ?_
 refine hK9 _ _ ?_; try clear hK9 K9
 refine wp_ret ?_
 refine c_ret hf (res1 hf rfl (ResV.cellN (l := [.int .i64 x.k, .int .i64 x.a, .int .i64 x.b]) rfl tN_107 (hB3.at 0) rfl)) ?_
 exact ⟨rfl, hW⟩
theorem F45 (w0 : World) {X_l : TypeId} (Al : Option Addr) (cl : Nat) (l : List Gt) (hr_l : Rd w0 w0.heap.size X_l encG Al l) (hln : l.length ≤ 1048576) : Ret Tryz.prog 45 [.slice Al l.length cl] w0 (fun v w => ∃ A c, v = .slice A l.length c ∧ Own w w0.heap.size 107 3 encG A c l ∧ Below w0.heap.size w0 w) := by
 refine enter Tryz.func45 rfl 23 rfl rfl ?_
 intro a hf
 have hW : Below w0.heap.size w0 w0 := Below.refl _ _
 refine wp_seq_k ?_; intro K2 hK2
 refine wp_region_lit ?_
 refine l_ev hf trivial rfl rfl (ev_assign hf rfl) ?_; intro a hf
 refine wpList_nil ?_
 refine hK2 _ _ ?_; try clear hK2 K2
 refine wp_seq_k ?_; intro K4 hK4
 refine wp_region_lit ?_
 refine l_ev hf trivial rfl rfl (ev_move hf rfl) ?_; intro a hf
 refine l_ev hf trivial rfl rfl (ev_len hf rfl sl_22) ?_; intro a hf
 refine l_eff hf trivial rfl rfl (ef_makeSlice (m := l.length) (enc := encG) (z0 := (⟨0, 0, 0⟩ : Gt)) hf rfl rfl sl_28 inf_107 z_107 rfl encG_len (by omega) (by omega)) ?_; rintro a _ w1 ⟨b5, rfl, hl5, hE, hB5⟩ hf
 have hlo5 := Nat.le_trans hW.size hl5
 replace hr_l := hr_l.below hE
 replace hW := hW.trans (hE.mono hW.size)
 clear hE
 refine l_ev hf trivial rfl rfl (ev_assign hf rfl) ?_; intro a hf
 refine wpList_nil ?_
 refine hK4 _ _ ?_; try clear hK4 K4
 refine wp_seq_k ?_; intro K7 hK7
 refine wp_seq_k ?_; intro K8 hK8
 refine wp_region_lit ?_
 refine l_ev hf trivial rfl rfl (ev_assign hf rfl) ?_; intro a hf
 refine wpList_nil ?_
 refine hK8 _ _ ?_; try clear hK8 K8
 refine wp_block ?_
 refine c_loop (σ := Nat × (List Gt)) (fun (s : Nat × (List Gt)) (a : Act) (w : World) => match s with | (k, m) => Fr a 23 [(0, .slice Al l.length cl), (3, .slice (some ⟨b5, 0, none⟩) l.length l.length), (4, .int .i64 (k : Int))] ∧ (k ≤ l.length) ∧ (m.length = l.length) ∧ (m.take k = l.take k) ∧ Blk w b5 107 (m.flatMap encG) ∧ Rd w w0.heap.size X_l encG Al l ∧ Below w0.heap.size w0 w) (fun (s : Nat × (List Gt)) => match s with | (k, m) => l.length - k) (0, List.replicate l.length (⟨0, 0, 0⟩ : Gt)) ?_ ?_
 · exact ⟨hf.sub ⟨rfl, rfl, rfl, trivial⟩, (Nat.zero_le _), (by simp), rfl, hB5, hr_l, hW⟩
 rintro ⟨k, m⟩ a w2 ⟨hf, hk, hml, hpre, hB5, hr_l, hW⟩
 refine wp_seq_k ?_; intro K9 hK9
 refine wp_seq_k ?_; intro K10 hK10
 refine wp_region_lit ?_
 refine l_ev hf trivial rfl rfl (ev_move hf rfl) ?_; intro a hf
 refine l_ev hf trivial rfl rfl (ev_move hf rfl) ?_; intro a hf
 refine l_ev hf trivial rfl rfl (ev_len hf rfl sl_22) ?_; intro a hf
 refine l_ev hf trivial rfl rfl (ev_lss hf rfl rfl) ?_; intro a hf
 refine wpList_nil ?_
 refine hK10 _ _ ?_; try clear hK10 K10
 refine c_if hf rfl (fun hc11 => ?_) (fun hc11 => ?_)
 ·have hc11b := hc11
  have hc11 := of_decide_eq_true hc11
  obtain ⟨u12, hu12⟩ := getElem_ex (l := l) (k := k) (by omega)
  refine wp_skip ?_
  refine hK9 _ _ ?_; try clear hK9 K9
  refine wp_seq_k ?_; intro K13 hK13
  refine wp_block ?_
  refine wp_region_lit ?_
  refine l_ev hf trivial rfl rfl (ev_move hf rfl) ?_; intro a hf
  refine l_ev hf trivial rfl rfl (ev_move hf rfl) ?_; intro a hf
  refine l_ev hf trivial rfl rfl (ev_move hf rfl) ?_; intro a hf
  refine l_ev hf trivial rfl rfl (ev_move hf rfl) ?_; intro a hf
  refine l_index (k := k) (u := u12) (enc := encG) (l := l) hf trivial rfl rfl rfl sl_22 sz_134 encG_len hr_l hu12 rfl ?_; intro a p15 hat14 hf
  refine l_ev hf trivial rfl rfl (ev_loadN (l := [.int .i64 u12.k, .int .i64 u12.a, .int .i64 u12.b]) hf rfl tN_134 hat14 rfl) ?_; intro a hf
  refine l_eff hf trivial rfl rfl (ef_call (vs := [.agg #[.int .i64 u12.k, .int .i64 u12.a, .int .i64 u12.b]]) hf rfl ff_90 (F90 _ u12)) ?_; rintro a _ w3 ⟨rfl, hE⟩ hf
  replace hB5 := hB5.below hE
  replace hr_l := hr_l.below hE
  replace hW := hW.trans (hE.mono hW.size)
  clear hE
  refine l_ev hf trivial rfl rfl (ev_indexB (k := k) (off := k * 3) hf rfl rfl sl_28 sz_107 rfl (by omega) rfl) ?_; intro a hf
  refine l_eff0 hf trivial rfl (ef_storeF (enc := encG) (l := m) (u := u12) (k := k) hf rfl rfl sz_107 hB5 encG_len encG_one rfl (by omega)) ?_; rintro a _ w4 ⟨ho, hb⟩ hf
  have hold := hB5
  replace hr_l := hr_l.only ho hlo5
  replace hW := Below.only hW ho hlo5
  clear hold
  have hB5 := hb
  clear hb ho
  refine wpList_nil ?_
  refine x_norm ?_
  refine hK13 _ _ ?_; try clear hK13 K13
  refine wp_region_lit ?_
  refine l_ev hf trivial rfl rfl (ev_move hf rfl) ?_; intro a hf
  refine l_ev hf trivial rfl rfl (ev_addx hf rfl rfl (by omega) (by omega)) ?_; intro a hf
  refine l_ev hf trivial rfl rfl (ev_assign hf rfl) ?_; intro a hf
  refine wpList_nil ?_
  refine x_thenN ?_
  exact ⟨(k + 1, (m.set k u12)), ⟨hf.sub ⟨rfl, rfl, rfl, trivial⟩, (by omega), (by simp; exact hml), (set_take hpre (by omega) hu12), hB5, hr_l, hW⟩, (by first | omega | (dsimp only; omega))⟩
 ·have hc11b := hc11
  have hc11 := of_decide_eq_false hc11
  refine wp_exit ?_
  refine x_exS ?_
  refine x_exS ?_
  refine x_exit ?_
  refine hK7 _ _ ?_; try clear hK7 K7
  refine wp_seq_k ?_; intro K16 hK16
  refine wp_region_lit ?_
  refine l_ev hf trivial rfl rfl (ev_move hf rfl) ?_; intro a hf
  refine l_ev hf trivial rfl rfl (ev_assign hf rfl) ?_; intro a hf
  refine wpList_nil ?_
  refine hK16 _ _ ?_; try clear hK16 K16
  refine wp_ret ?_
  refine c_ret hf (res1 hf rfl rfl) ?_
  have hmk : m.length = l.length := hml
  have hmkb : l.length ≤ maxLen := by simp only [maxLen]; omega
  have hfin : m = l := by rw [List.take_of_length_le (by omega), List.take_of_length_le (by omega)] at hpre; exact hpre
  have hown := (Own.of_flat encG_len hB5 hlo5 hmk hmkb)
  rw [hfin] at hown
  exact ⟨(some ⟨b5, 0, none⟩), l.length, rfl, hown, hW⟩
theorem F11 (w0 : World) {Xr Yr : TypeId} (r : Rp) (Ar : Option Addr) (cr : Nat) (hr_r : Rd w0 w0.heap.size Xr encG Ar r.old) (Br : Option Addr) (dr : Nat) (hs_r : Rd w0 w0.heap.size Yr encG Br r.new) (hla : r.old.length ≤ 1048576) (hlb : r.new.length ≤ 1048576) : Ret Tryz.prog 11 [.agg #[.int .i64 r.pos, .slice Ar r.old.length cr, .slice Br r.new.length dr]] w0 (fun v w => ∃ A c B d, v = .agg #[.int .i64 r.pos, .slice A r.old.length c, .slice B r.new.length d] ∧ Own w w0.heap.size 107 3 encG A c r.old ∧ Own w w0.heap.size 107 3 encG B d r.new ∧ Below w0.heap.size w0 w) := by
 refine enter Tryz.func11 rfl 16 rfl rfl ?_
 intro a hf
 have hW : Below w0.heap.size w0 w0 := Below.refl _ _
 refine wp_seq_k ?_; intro K3 hK3
 refine wp_region_lit ?_
 refine l_eff hf trivial rfl rfl (ef_box (zs := [.int .i64 r.pos, .slice Ar r.old.length cr, .slice Br r.new.length dr]) hf rfl rfl) ?_; rintro a _ w1 ⟨b4, rfl, hl4, hE, hB4⟩ hf
 have hlo4 := Nat.le_trans hW.size hl4
 replace hr_r := hr_r.below hE
 replace hs_r := hs_r.below hE
 replace hW := hW.trans (hE.mono hW.size)
 clear hE
 refine l_eff hf trivial rfl rfl (ef_alloc (zs := [.int .i64 0, .slice none 0 0, .slice none 0 0]) z_30 rfl) ?_; rintro a _ w2 ⟨b7, rfl, hl7, hE, hB7⟩ hf
 have hlo7 := Nat.le_trans hW.size hl7
 replace hB4 := hB4.below hE
 replace hr_r := hr_r.below hE
 replace hs_r := hs_r.below hE
 replace hW := hW.trans (hE.mono hW.size)
 clear hE
 refine wpList_nil ?_
 refine hK3 _ _ ?_; try clear hK3 K3
 refine wp_seq_k ?_; intro K8 hK8
 refine wp_region_lit ?_
 refine l_eff hf trivial rfl rfl (ef_alloc (zs := [.int .i64 0, .slice none 0 0, .slice none 0 0]) z_30 rfl) ?_; rintro a _ w3 ⟨b11, rfl, hl11, hE, hB11⟩ hf
 have hne7_11 : b7 ≠ b11 := by have := hB7.lt; omega
 have hlo11 := Nat.le_trans hW.size hl11
 replace hB4 := hB4.below hE
 replace hB7 := hB7.below hE
 replace hr_r := hr_r.below hE
 replace hs_r := hs_r.below hE
 replace hW := hW.trans (hE.mono hW.size)
 clear hE
 refine wpList_nil ?_
 refine hK8 _ _ ?_; try clear hK8 K8
 refine wp_seq_k ?_; intro K12 hK12
 refine wp_region_lit ?_
 refine l_ev hf trivial rfl rfl (ev_fieldB hf rfl fd_24_0 (m := 0) rfl) ?_; intro a hf
 refine l_ev hf trivial rfl rfl (ev_load1 hf rfl t1_3 (hB4.at 0)) ?_; intro a hf
 refine l_ev hf trivial rfl rfl (ev_fieldB hf rfl fd_30_0 (m := 0) rfl) ?_; intro a hf
 refine l_eff0 hf trivial rfl (ef_store (vs := [.int .i64 r.pos]) (l' := [.int .i64 r.pos, .slice none 0 0, .slice none 0 0]) hf rfl rfl sz_3 hB11 rfl rfl rfl rfl rfl) ?_; rintro a _ w4 ⟨ho, hb⟩ hf
 have hold := hB11
 replace hB4 := hB4.only ho (Blk.ne hB4 hold rfl)
 replace hB7 := hB7.only ho (by omega)
 replace hr_r := hr_r.only ho hlo11
 replace hs_r := hs_r.only ho hlo11
 replace hW := Below.only hW ho hlo11
 clear hold
 have hB11 := hb
 clear hb ho
 refine wpList_nil ?_
 refine hK12 _ _ ?_; try clear hK12 K12
 refine wp_seq_k ?_; intro K13 hK13
 refine wp_region_lit ?_
 refine l_ev hf trivial rfl rfl (ev_fieldB hf rfl fd_24_1 (m := 1) rfl) ?_; intro a hf
 refine l_ev hf trivial rfl rfl (ev_load1 hf rfl t1_22 (hB4.at 1)) ?_; intro a hf
 refine l_eff hf trivial rfl rfl (ef_call (vs := [.slice Ar r.old.length cr]) hf rfl ff_45 (F45 _ Ar cr r.old hr_r.top hla)) ?_; rintro a _ w5 ⟨A14, c14, rfl, ho14, hE⟩ hf
 replace ho14 := ho14.lower hW.size
 replace hB4 := hB4.below hE
 replace hB7 := hB7.below hE
 replace hB11 := hB11.below hE
 replace hr_r := hr_r.below hE
 replace hs_r := hs_r.below hE
 replace hW := hW.trans (hE.mono hW.size)
 clear hE
 refine l_ev hf trivial rfl rfl (ev_fieldB hf rfl fd_30_1 (m := 1) rfl) ?_; intro a hf
 refine l_eff0 hf trivial rfl (ef_store (vs := [.slice A14 r.old.length c14]) (l' := [.int .i64 r.pos, .slice A14 r.old.length c14, .slice none 0 0]) hf rfl rfl sz_28 hB11 rfl rfl rfl rfl rfl) ?_; rintro a _ w6 ⟨ho, hb⟩ hf
 have hold := hB11
 replace hB4 := hB4.only ho (Blk.ne hB4 hold rfl)
 replace hB7 := hB7.only ho (by omega)
 replace hr_r := hr_r.only ho hlo11
 replace hs_r := hs_r.only ho hlo11
 replace ho14 := ho14.onlyT ho hold rfl
 replace hW := Below.only hW ho hlo11
 clear hold
 have hB11 := hb
 clear hb ho
 refine wpList_nil ?_
 refine hK13 _ _ ?_; try clear hK13 K13
 refine wp_seq_k ?_; intro K15 hK15
 refine wp_region_lit ?_
 refine l_ev hf trivial rfl rfl (ev_fieldB hf rfl fd_24_2 (m := 2) rfl) ?_; intro a hf
 refine l_ev hf trivial rfl rfl (ev_load1 hf rfl t1_22 (hB4.at 2)) ?_; intro a hf
 refine l_eff hf trivial rfl rfl (ef_call (vs := [.slice Br r.new.length dr]) hf rfl ff_45 (F45 _ Br dr r.new hs_r.top hlb)) ?_; rintro a _ w7 ⟨A16, c16, rfl, ho16, hE⟩ hf
 replace ho16 := ho16.lower hW.size
 replace hB4 := hB4.below hE
 replace hB7 := hB7.below hE
 replace hB11 := hB11.below hE
 replace hr_r := hr_r.below hE
 replace hs_r := hs_r.below hE
 replace ho14 := ho14.below hE
 replace hW := hW.trans (hE.mono hW.size)
 clear hE
 refine l_ev hf trivial rfl rfl (ev_fieldB hf rfl fd_30_2 (m := 2) rfl) ?_; intro a hf
 refine l_eff0 hf trivial rfl (ef_store (vs := [.slice A16 r.new.length c16]) (l' := [.int .i64 r.pos, .slice A14 r.old.length c14, .slice A16 r.new.length c16]) hf rfl rfl sz_28 hB11 rfl rfl rfl rfl rfl) ?_; rintro a _ w8 ⟨ho, hb⟩ hf
 have hold := hB11
 replace hB4 := hB4.only ho (Blk.ne hB4 hold rfl)
 replace hB7 := hB7.only ho (by omega)
 replace hr_r := hr_r.only ho hlo11
 replace hs_r := hs_r.only ho hlo11
 replace ho14 := ho14.onlyT ho hold rfl
 replace ho16 := ho16.onlyT ho hold rfl
 replace hW := Below.only hW ho hlo11
 clear hold
 have hB11 := hb
 clear hb ho
 refine wpList_nil ?_
 refine hK15 _ _ ?_; try clear hK15 K15
 refine wp_seq_k ?_; intro K17 hK17
 refine wp_region_lit ?_
 refine l_ev hf trivial rfl rfl (ev_loadN (l := [.int .i64 r.pos, .slice A14 r.old.length c14, .slice A16 r.new.length c16]) hf rfl tN_30 (hB11.at 0) rfl) ?_; intro a hf
 refine l_eff0 hf trivial rfl (ef_store (vs := [.int .i64 r.pos, .slice A14 r.old.length c14, .slice A16 r.new.length c16]) (l' := [.int .i64 r.pos, .slice A14 r.old.length c14, .slice A16 r.new.length c16]) hf rfl rfl sz_30 hB7 rfl rfl rfl rfl rfl) ?_; rintro a _ w9 ⟨ho, hb⟩ hf
 have hold := hB7
 replace hB4 := hB4.only ho (Blk.ne hB4 hold rfl)
 replace hB11 := hB11.only ho (by omega)
 replace hr_r := hr_r.only ho hlo7
 replace hs_r := hs_r.only ho hlo7
 replace ho14 := ho14.onlyT ho hold rfl
 replace ho16 := ho16.onlyT ho hold rfl
 replace hW := Below.only hW ho hlo7
 clear hold
 have hB7 := hb
 clear hb ho
 refine wpList_nil ?_
 refine hK17 _ _ ?_; try clear hK17 K17
 refine wp_ret ?_
 refine c_ret hf (res1 hf rfl (ResV.cellN (l := [.int .i64 r.pos, .slice A14 r.old.length c14, .slice A16 r.new.length c16]) rfl tN_30 (hB7.at 0) rfl)) ?_
 exact ⟨A14, c14, A16, c16, rfl, ho14, ho16, hW⟩
theorem F13 (w0 : World) (p : Rp) (Ap : Option Addr) (cp : Nat) (hr_p : Rd w0 w0.heap.size 107 encG Ap p.old) (Bp : Option Addr) (dp : Nat) (hs_p : Rd w0 w0.heap.size 107 encG Bp p.new) (q : Rp) (Aq : Option Addr) (cq : Nat) (hr_q : Rd w0 w0.heap.size 107 encG Aq q.old) (Bq : Option Addr) (dq : Nat) (hs_q : Rd w0 w0.heap.size 107 encG Bq q.new) (hla : p.old.length ≤ 2305843009213693951) (hlb : p.new.length ≤ 2305843009213693951) : Ret Tryz.prog 13 [.agg #[.int .i64 p.pos, .slice Ap p.old.length cp, .slice Bp p.new.length dp], .agg #[.int .i64 q.pos, .slice Aq q.old.length cq, .slice Bq q.new.length dq]] w0 (fun v w => v = .bool (decide (p.pos = q.pos) && decide (p.old = q.old) && decide (p.new = q.new)) ∧ Below w0.heap.size w0 w) := by
 refine enter Tryz.func13 rfl 22 rfl rfl ?_
 intro a hf
 have hW : Below w0.heap.size w0 w0 := Below.refl _ _
 refine wp_seq_k ?_; intro K5 hK5
 refine wp_region_lit ?_
 refine l_eff hf trivial rfl rfl (ef_box (zs := [.int .i64 p.pos, .slice Ap p.old.length cp, .slice Bp p.new.length dp]) hf rfl rfl) ?_; rintro a _ w1 ⟨b6, rfl, hl6, hE, hB6⟩ hf
 have hlo6 := Nat.le_trans hW.size hl6
 replace hr_p := hr_p.below hE
 replace hs_p := hs_p.below hE
 replace hr_q := hr_q.below hE
 replace hs_q := hs_q.below hE
 replace hW := hW.trans (hE.mono hW.size)
 clear hE
 refine l_eff hf trivial rfl rfl (ef_box (zs := [.int .i64 q.pos, .slice Aq q.old.length cq, .slice Bq q.new.length dq]) hf rfl rfl) ?_; rintro a _ w2 ⟨b7, rfl, hl7, hE, hB7⟩ hf
 have hne6_7 : b6 ≠ b7 := by have := hB6.lt; omega
 have hlo7 := Nat.le_trans hW.size hl7
 replace hB6 := hB6.below hE
 replace hr_p := hr_p.below hE
 replace hs_p := hs_p.below hE
 replace hr_q := hr_q.below hE
 replace hs_q := hs_q.below hE
 replace hW := hW.trans (hE.mono hW.size)
 clear hE
 refine l_ev hf trivial rfl rfl (ev_assign hf rfl) ?_; intro a hf
 refine wpList_nil ?_
 refine hK5 _ _ ?_; try clear hK5 K5
 refine wp_seq_k ?_; intro K8 hK8
 refine wp_seq_k ?_; intro K9 hK9
 refine wp_region_lit ?_
 refine l_ev hf trivial rfl rfl (ev_fieldB hf rfl fd_30_0 (m := 0) rfl) ?_; intro a hf
 refine l_ev hf trivial rfl rfl (ev_load1 hf rfl t1_3 (hB6.at 0)) ?_; intro a hf
 refine l_ev hf trivial rfl rfl (ev_fieldB hf rfl fd_30_0 (m := 0) rfl) ?_; intro a hf
 refine l_ev hf trivial rfl rfl (ev_load1 hf rfl t1_3 (hB7.at 0)) ?_; intro a hf
 refine l_ev hf trivial rfl rfl (ev_neq hf rfl rfl) ?_; intro a hf
 refine wpList_nil ?_
 refine hK9 _ _ ?_; try clear hK9 K9
 refine c_if hf rfl (fun hc10 => ?_) (fun hc10 => ?_)
 ·have hc10b := hc10
  have hn : ¬ p.pos = q.pos := by simpa using hc10
  refine wp_seq_k ?_; intro K11 hK11
  refine wp_region_lit ?_
  refine l_ev hf trivial rfl rfl (ev_assign hf rfl) ?_; intro a hf
  refine wpList_nil ?_
  refine hK11 _ _ ?_; try clear hK11 K11
  refine wp_ret ?_
  refine x_retS ?_
  refine c_ret hf (res1 hf rfl rfl) ?_
  exact ⟨by simp [hn], hW⟩
 ·have hc10b := hc10
  have e1 : p.pos = q.pos := by simpa using hc10
  refine wp_skip ?_
  refine hK8 _ _ ?_; try clear hK8 K8
  refine wp_seq_k ?_; intro K12 hK12
  refine wp_seq_k ?_; intro K13 hK13
  refine wp_region_lit ?_
  refine l_ev hf trivial rfl rfl (ev_fieldB hf rfl fd_30_1 (m := 1) rfl) ?_; intro a hf
  refine l_ev hf trivial rfl rfl (ev_load1 hf rfl t1_28 (hB6.at 1)) ?_; intro a hf
  refine l_ev hf trivial rfl rfl (ev_fieldB hf rfl fd_30_1 (m := 1) rfl) ?_; intro a hf
  refine l_ev hf trivial rfl rfl (ev_load1 hf rfl t1_28 (hB7.at 1)) ?_; intro a hf
  refine l_eff hf trivial rfl rfl (ef_call (vs := [.slice Ap p.old.length cp, .slice Aq q.old.length cq]) hf rfl ff_52 (F52 _ Ap cp p.old hr_p.top Aq cq q.old hr_q.top hla)) ?_; rintro a _ w3 ⟨rfl, hE⟩ hf
  replace hB6 := hB6.below hE
  replace hB7 := hB7.below hE
  replace hr_p := hr_p.below hE
  replace hs_p := hs_p.below hE
  replace hr_q := hr_q.below hE
  replace hs_q := hs_q.below hE
  replace hW := hW.trans (hE.mono hW.size)
  clear hE
  refine l_ev hf trivial rfl rfl (ev_not hf rfl) ?_; intro a hf
  refine wpList_nil ?_
  refine hK13 _ _ ?_; try clear hK13 K13
  refine c_if hf rfl (fun hc14 => ?_) (fun hc14 => ?_)
  ·have hc14b := hc14
   have hn : ¬ p.old = q.old := by simpa using hc14
   refine wp_seq_k ?_; intro K15 hK15
   refine wp_region_lit ?_
   refine l_ev hf trivial rfl rfl (ev_assign hf rfl) ?_; intro a hf
   refine wpList_nil ?_
   refine hK15 _ _ ?_; try clear hK15 K15
   refine wp_ret ?_
   refine x_retS ?_
   refine c_ret hf (res1 hf rfl rfl) ?_
   exact ⟨by simp [hn], hW⟩
  ·have hc14b := hc14
   have e2 : p.old = q.old := by simpa using hc14
   refine wp_skip ?_
   refine hK12 _ _ ?_; try clear hK12 K12
   refine wp_seq_k ?_; intro K16 hK16
   refine wp_seq_k ?_; intro K17 hK17
   refine wp_region_lit ?_
   refine l_ev hf trivial rfl rfl (ev_fieldB hf rfl fd_30_2 (m := 2) rfl) ?_; intro a hf
   refine l_ev hf trivial rfl rfl (ev_load1 hf rfl t1_28 (hB6.at 2)) ?_; intro a hf
   refine l_ev hf trivial rfl rfl (ev_fieldB hf rfl fd_30_2 (m := 2) rfl) ?_; intro a hf
   refine l_ev hf trivial rfl rfl (ev_load1 hf rfl t1_28 (hB7.at 2)) ?_; intro a hf
   refine l_eff hf trivial rfl rfl (ef_call (vs := [.slice Bp p.new.length dp, .slice Bq q.new.length dq]) hf rfl ff_52 (F52 _ Bp dp p.new hs_p.top Bq dq q.new hs_q.top hlb)) ?_; rintro a _ w4 ⟨rfl, hE⟩ hf
   replace hB6 := hB6.below hE
   replace hB7 := hB7.below hE
   replace hr_p := hr_p.below hE
   replace hs_p := hs_p.below hE
   replace hr_q := hr_q.below hE
   replace hs_q := hs_q.below hE
   replace hW := hW.trans (hE.mono hW.size)
   clear hE
   refine l_ev hf trivial rfl rfl (ev_not hf rfl) ?_; intro a hf
   refine wpList_nil ?_
   refine hK17 _ _ ?_; try clear hK17 K17
   refine c_if hf rfl (fun hc18 => ?_) (fun hc18 => ?_)
   ·have hc18b := hc18
    have hn : ¬ p.new = q.new := by simpa using hc18
    refine wp_seq_k ?_; intro K19 hK19
    refine wp_region_lit ?_
    refine l_ev hf trivial rfl rfl (ev_assign hf rfl) ?_; intro a hf
    refine wpList_nil ?_
    refine hK19 _ _ ?_; try clear hK19 K19
    refine wp_ret ?_
    refine x_retS ?_
    refine c_ret hf (res1 hf rfl rfl) ?_
    exact ⟨by simp [hn], hW⟩
   ·have hc18b := hc18
    have e3 : p.new = q.new := by simpa using hc18
    refine wp_skip ?_
    refine hK16 _ _ ?_; try clear hK16 K16
    refine wp_seq_k ?_; intro K20 hK20
    refine wp_region_lit ?_
    refine l_ev hf trivial rfl rfl (ev_assign hf rfl) ?_; intro a hf
    refine wpList_nil ?_
    refine hK20 _ _ ?_; try clear hK20 K20
    refine wp_ret ?_
    refine c_ret hf (res1 hf rfl rfl) ?_
    exact ⟨by simp [e1, e2, e3], hW⟩
theorem F3 (w0 : World) (n : Int) {Xr Yr : TypeId} (r : Rp) (Ar : Option Addr) (cr : Nat) (hr_r : Rd w0 w0.heap.size Xr encG Ar r.old) (Br : Option Addr) (dr : Nat) (hs_r : Rd w0 w0.heap.size Yr encG Br r.new) (hla : r.old.length ≤ 9223372036854775807) (hlb : r.new.length ≤ 9223372036854775807) : Ret Tryz.prog 3 [.int .i64 n, .agg #[.int .i64 r.pos, .slice Ar r.old.length cr, .slice Br r.new.length dr]] w0 (fun v w => v = .bool true ∧ Below w0.heap.size w0 w) := by
 refine enter Tryz.func3 rfl 44 rfl rfl ?_
 intro a hf
 have hW : Below w0.heap.size w0 w0 := Below.refl _ _
 refine wp_seq_k ?_; intro K3 hK3
 refine wp_region_lit ?_
 refine l_eff hf trivial rfl rfl (ef_box (zs := [.int .i64 r.pos, .slice Ar r.old.length cr, .slice Br r.new.length dr]) hf rfl rfl) ?_; rintro a _ w1 ⟨b4, rfl, hl4, hE, hB4⟩ hf
 have hlo4 := Nat.le_trans hW.size hl4
 replace hr_r := hr_r.below hE
 replace hs_r := hs_r.below hE
 replace hW := hW.trans (hE.mono hW.size)
 clear hE
 refine l_ev hf trivial rfl rfl (ev_assign hf rfl) ?_; intro a hf
 refine wpList_nil ?_
 refine hK3 _ _ ?_; try clear hK3 K3
 refine wp_seq_k ?_; intro K5 hK5
 refine wp_region_lit ?_
 refine l_ev hf trivial rfl rfl (ev_assign hf rfl) ?_; intro a hf
 refine wpList_nil ?_
 refine hK5 _ _ ?_; try clear hK5 K5
 refine wp_seq_k ?_; intro K6 hK6
 refine wp_region_lit ?_
 refine l_ev hf trivial rfl rfl (ev_loadN (l := [.int .i64 r.pos, .slice Ar r.old.length cr, .slice Br r.new.length dr]) hf rfl tN_24 (hB4.at 0) rfl) ?_; intro a hf
 refine l_ev hf trivial rfl rfl (ev_move hf rfl) ?_; intro a hf
 refine l_eff hf trivial rfl rfl (ef_call (vs := [.agg #[.int .i64 r.pos, .slice Ar r.old.length cr, .slice Br r.new.length dr], .int .i64 1048576]) hf rfl ff_9 (F9 _ r Ar cr hr_r.top Br dr hs_r.top 1048576 (by omega) hla hlb)) ?_; rintro a _ w2 ⟨rfl, hE⟩ hf
 replace hB4 := hB4.below hE
 replace hr_r := hr_r.below hE
 replace hs_r := hs_r.below hE
 replace hW := hW.trans (hE.mono hW.size)
 clear hE
 refine l_ev hf trivial rfl rfl (ev_assign hf rfl) ?_; intro a hf
 refine wpList_nil ?_
 refine hK6 _ _ ?_; try clear hK6 K6
 refine wp_seq_k ?_; intro K7 hK7
 refine wp_seq_k ?_; intro K8 hK8
 refine wp_region_lit ?_
 refine l_ev hf trivial rfl rfl (ev_move hf rfl) ?_; intro a hf
 refine l_ev hf trivial rfl rfl (ev_lss hf rfl rfl) ?_; intro a hf
 refine wpList_nil ?_
 refine hK8 _ _ ?_; try clear hK8 K8
 refine c_if hf rfl (fun hc9 => ?_) (fun hc9 => ?_)
 ·have hc9b := hc9
  have hc9 := of_decide_eq_true hc9
  refine wp_seq_k ?_; intro K10 hK10
  refine wp_region_lit ?_
  refine l_ev hf trivial rfl rfl (ev_assign hf rfl) ?_; intro a hf
  refine wpList_nil ?_
  refine hK10 _ _ ?_; try clear hK10 K10
  refine wp_ret ?_
  refine x_retS ?_
  refine c_ret hf (res1 hf rfl rfl) ?_
  exact ⟨rfl, hW⟩
 ·have hc9b := hc9
  have hc9 := of_decide_eq_false hc9
  have hsz := szR_le hc9
  have hl1 : r.old.length ≤ 1048576 := by omega
  have hl2 : r.new.length ≤ 1048576 := by omega
  refine wp_skip ?_
  refine hK7 _ _ ?_; try clear hK7 K7
  refine wp_seq_k ?_; intro K11 hK11
  refine wp_region_lit ?_
  refine l_ev hf trivial rfl rfl (ev_move hf rfl) ?_; intro a hf
  refine l_ev hf trivial rfl rfl (ev_loadN (l := [.int .i64 r.pos, .slice Ar r.old.length cr, .slice Br r.new.length dr]) hf rfl tN_24 (hB4.at 0) rfl) ?_; intro a hf
  refine l_eff hf trivial rfl rfl (ef_call (vs := [.agg #[.int .i64 r.pos, .slice Ar r.old.length cr, .slice Br r.new.length dr]]) hf rfl ff_11 (F11 _ r Ar cr hr_r.top Br dr hs_r.top hl1 hl2)) ?_; rintro a _ w3 ⟨A12, c12, A13, c13, rfl, ho12, ho13, hE⟩ hf
  replace ho12 := ho12.lower hW.size
  replace ho13 := ho13.lower hW.size
  replace hB4 := hB4.below hE
  replace hr_r := hr_r.below hE
  replace hs_r := hs_r.below hE
  replace hW := hW.trans (hE.mono hW.size)
  clear hE
  refine l_eff hf trivial rfl rfl (ef_call (vs := [.int .i64 n, .agg #[.int .i64 r.pos, .slice A12 r.old.length c12, .slice A13 r.new.length c13]]) hf rfl ff_10 (F10 _ n r A12 c12 ho12.rd.top A13 c13 ho13.rd.top hl1 hl2)) ?_; rintro a _ w4 ⟨rfl, hE⟩ hf
  replace hB4 := hB4.below hE
  replace hr_r := hr_r.below hE
  replace hs_r := hs_r.below hE
  replace ho12 := ho12.below hE
  replace ho13 := ho13.below hE
  replace hW := hW.trans (hE.mono hW.size)
  clear hE
  refine l_ev hf trivial rfl rfl (ev_move hf rfl) ?_; intro a hf
  refine l_ev hf trivial rfl rfl (ev_extract (vs := [.bool ((specJ n r).1), .bool ((specJ n r).2)]) hf rfl rfl) ?_; intro a hf
  refine l_ev hf trivial rfl rfl (ev_extract (vs := [.bool ((specJ n r).1), .bool ((specJ n r).2)]) hf rfl rfl) ?_; intro a hf
  refine l_ev hf trivial rfl rfl (ev_assign hf rfl) ?_; intro a hf
  refine l_ev hf trivial rfl rfl (ev_assign hf rfl) ?_; intro a hf
  refine wpList_nil ?_
  refine hK11 _ _ ?_; try clear hK11 K11
  refine wp_seq_k ?_; intro K14 hK14
  refine wp_region_lit ?_
  refine l_ev hf trivial rfl rfl (ev_loadN (l := [.int .i64 r.pos, .slice Ar r.old.length cr, .slice Br r.new.length dr]) hf rfl tN_24 (hB4.at 0) rfl) ?_; intro a hf
  refine l_eff hf trivial rfl rfl (ef_call (vs := [.agg #[.int .i64 r.pos, .slice Ar r.old.length cr, .slice Br r.new.length dr]]) hf rfl ff_11 (F11 _ r Ar cr hr_r.top Br dr hs_r.top hl1 hl2)) ?_; rintro a _ w5 ⟨A15, c15, A16, c16, rfl, ho15, ho16, hE⟩ hf
  replace ho15 := ho15.lower hW.size
  replace ho16 := ho16.lower hW.size
  replace hB4 := hB4.below hE
  replace hr_r := hr_r.below hE
  replace hs_r := hs_r.below hE
  replace ho12 := ho12.below hE
  replace ho13 := ho13.below hE
  replace hW := hW.trans (hE.mono hW.size)
  clear hE
  refine l_eff hf trivial rfl rfl (ef_alloc (zs := [.int .i64 0, .slice none 0 0, .slice none 0 0]) z_30 rfl) ?_; rintro a _ w6 ⟨b19, rfl, hl19, hE, hB19⟩ hf
  have hlo19 := Nat.le_trans hW.size hl19
  replace hB4 := hB4.below hE
  replace hr_r := hr_r.below hE
  replace hs_r := hs_r.below hE
  replace ho12 := ho12.below hE
  replace ho13 := ho13.below hE
  replace ho15 := ho15.below hE
  replace ho16 := ho16.below hE
  replace hW := hW.trans (hE.mono hW.size)
  clear hE
  refine l_eff0 hf trivial rfl (ef_store (vs := [.int .i64 r.pos, .slice A15 r.old.length c15, .slice A16 r.new.length c16]) (l' := [.int .i64 r.pos, .slice A15 r.old.length c15, .slice A16 r.new.length c16]) hf rfl rfl sz_30 hB19 rfl rfl rfl rfl rfl) ?_; rintro a _ w7 ⟨ho, hb⟩ hf
  have hold := hB19
  replace hB4 := hB4.only ho (Blk.ne hB4 hold rfl)
  replace hr_r := hr_r.only ho hlo19
  replace hs_r := hs_r.only ho hlo19
  replace ho12 := ho12.onlyT ho hold rfl
  replace ho13 := ho13.onlyT ho hold rfl
  replace ho15 := ho15.onlyT ho hold rfl
  replace ho16 := ho16.onlyT ho hold rfl
  replace hW := Below.only hW ho hlo19
  clear hold
  have hB19 := hb
  clear hb ho
  refine wpList_nil ?_
  refine hK14 _ _ ?_; try clear hK14 K14
  refine wp_seq_k ?_; intro K20 hK20
  refine wp_region_lit ?_
  refine l_ev hf trivial rfl rfl (ev_move hf rfl) ?_; intro a hf
  refine l_ev hf trivial rfl rfl (ev_loadN (l := [.int .i64 r.pos, .slice A15 r.old.length c15, .slice A16 r.new.length c16]) hf rfl tN_30 (hB19.at 0) rfl) ?_; intro a hf
  refine l_eff hf trivial rfl rfl (ef_call (vs := [.int .i64 n, .agg #[.int .i64 r.pos, .slice A15 r.old.length c15, .slice A16 r.new.length c16]]) hf rfl ff_12 (F12 _ n r A15 c15 ho15.rd.top A16 c16 ho16.rd.top hl1 hl2)) ?_; rintro a _ w8 ⟨rfl, hE⟩ hf
  replace hB4 := hB4.below hE
  replace hB19 := hB19.below hE
  replace hr_r := hr_r.below hE
  replace hs_r := hs_r.below hE
  replace ho12 := ho12.below hE
  replace ho13 := ho13.below hE
  replace ho15 := ho15.below hE
  replace ho16 := ho16.below hE
  replace hW := hW.trans (hE.mono hW.size)
  clear hE
  refine l_ev hf trivial rfl rfl (ev_move hf rfl) ?_; intro a hf
  refine l_ev hf trivial rfl rfl (ev_extract (vs := [.bool ((implJ n r).1), .bool ((implJ n r).2)]) hf rfl rfl) ?_; intro a hf
  refine l_ev hf trivial rfl rfl (ev_extract (vs := [.bool ((implJ n r).1), .bool ((implJ n r).2)]) hf rfl rfl) ?_; intro a hf
  refine l_ev hf trivial rfl rfl (ev_assign hf rfl) ?_; intro a hf
  refine l_ev hf trivial rfl rfl (ev_assign hf rfl) ?_; intro a hf
  refine wpList_nil ?_
  refine hK20 _ _ ?_; try clear hK20 K20
  refine wp_seq_k ?_; intro K21 hK21
  refine wp_seq_k ?_; intro K22 hK22
  refine c_cut (fun a w => Fr a 44 [(3, .pointer (some ⟨b4, 0, none⟩)), (8, .pointer (some ⟨b19, 0, none⟩)), (38, .bool ((((implJ n r).1) != ((specJ n r).1)) || (((implJ n r).2) != ((specJ n r).2))))] ∧ w8 = w) ?_ ?_
  ·refine wp_region_lit ?_
   refine l_ev hf trivial rfl rfl (ev_move hf rfl) ?_; intro a hf
   refine l_ev hf trivial rfl rfl (ev_move hf rfl) ?_; intro a hf
   refine l_ev hf trivial rfl rfl (ev_bneq Tryz.underlying4 hf rfl rfl) ?_; intro a hf
   refine l_ev hf trivial rfl rfl (ev_move hf rfl) ?_; intro a hf
   refine g_split hf (t := 34) rfl (fun hg23 => ?_) (fun hg23 => ?_)
   ·refine l_pass hf ⟨_, _, rfl, rfl, hg23⟩ rfl rfl ?_; intro a hf
    refine l_pass hf ⟨_, _, rfl, rfl, hg23⟩ rfl rfl ?_; intro a hf
    refine l_pass hf ⟨_, _, rfl, rfl, hg23⟩ rfl rfl ?_; intro a hf
    refine l_ev hf trivial rfl rfl (ev_pickT hf rfl hg23 rfl) ?_; intro a hf
    refine wpList_nil ?_
    exact ⟨hf.sub ⟨rfl, rfl, look_bool rfl (by first | rfl | (simp only [hc9b, hg23, Bool.true_and, Bool.false_and, Bool.true_or, Bool.false_or]; done) | simp [hc9b, hg23]), trivial⟩, rfl⟩
   ·refine l_ev hf ⟨_, _, rfl, rfl, hg23⟩ rfl rfl (ev_move hf rfl) ?_; intro a hf
    refine l_ev hf ⟨_, _, rfl, rfl, hg23⟩ rfl rfl (ev_move hf rfl) ?_; intro a hf
    refine l_ev hf ⟨_, _, rfl, rfl, hg23⟩ rfl rfl (ev_bneq Tryz.underlying4 hf rfl rfl) ?_; intro a hf
    refine l_ev hf trivial rfl rfl (ev_pickF hf rfl hg23 rfl) ?_; intro a hf
    refine wpList_nil ?_
    exact ⟨hf.sub ⟨rfl, rfl, look_bool rfl (by first | rfl | (simp only [hc9b, hg23, Bool.true_and, Bool.false_and, Bool.true_or, Bool.false_or]; done) | simp [hc9b, hg23]), trivial⟩, rfl⟩
  rintro a _ ⟨hf, rfl⟩
  refine hK22 _ _ ?_; try clear hK22 K22
  refine c_if hf rfl (fun hc24 => ?_) (fun hc24 => ?_)
  ·have hc24b := hc24
   rw [implJ_eq] at hc24; simp at hc24
  ·have hc24b := hc24
   refine wp_skip ?_
   refine hK21 _ _ ?_; try clear hK21 K21
   refine wp_seq_k ?_; intro K25 hK25
   refine wp_seq_k ?_; intro K26 hK26
   refine wp_draw none (fun _ => false) mixed ?_
   intro w9 hE
   replace hB4 := hB4.below hE
   replace hB19 := hB19.below hE
   replace hr_r := hr_r.below hE
   replace hs_r := hs_r.below hE
   replace ho12 := ho12.below hE
   replace ho13 := ho13.below hE
   replace ho15 := ho15.below hE
   replace ho16 := ho16.below hE
   replace hW := hW.trans (hE.mono hW.size)
   clear hE
   refine s_ev 0 rfl (by kernel_rfl) (by kernel_rfl) hf trivial rfl rfl (ev_loadN (l := [.int .i64 r.pos, .slice A15 r.old.length c15, .slice A16 r.new.length c16]) hf rfl tN_30 (hB19.at 0) rfl) ?_; intro a hf
   refine s_ev 1 rfl (by kernel_rfl) (by kernel_rfl) hf trivial rfl rfl (ev_loadN (l := [.int .i64 r.pos, .slice Ar r.old.length cr, .slice Br r.new.length dr]) hf rfl tN_24 (hB4.at 0) rfl) ?_; intro a hf
   refine s_one 2 (by kernel_rfl) ?_
   refine p_eff rfl hf trivial rfl rfl (Ef.mono (ef_call (vs := [.agg #[.int .i64 r.pos, .slice Ar r.old.length cr, .slice Br r.new.length dr]]) hf rfl ff_11 (F11 _ r Ar cr hr_r.top Br dr hs_r.top hl1 hl2)) (fun _ _ h => ⟨fun _ => by obtain ⟨A27, c27, A28, c28, rfl, ho27, ho28, hE⟩ := h; exact hE, h⟩)) ?_; rintro a _ w10 ⟨A27, c27, A28, c28, rfl, ho27, ho28, hE⟩ hf
   replace ho27 := ho27.lower hW.size
   replace ho28 := ho28.lower hW.size
   replace hB4 := hB4.below hE
   replace hB19 := hB19.below hE
   replace hr_r := hr_r.below hE
   replace hs_r := hs_r.below hE
   replace ho12 := ho12.below hE
   replace ho13 := ho13.below hE
   replace ho15 := ho15.below hE
   replace ho16 := ho16.below hE
   replace hW := hW.trans (hE.mono hW.size)
   clear hE
   refine s_one 3 (by kernel_rfl) ?_
   refine p_eff rfl hf trivial rfl rfl (Ef.mono (ef_call (vs := [.agg #[.int .i64 r.pos, .slice A15 r.old.length c15, .slice A16 r.new.length c16], .agg #[.int .i64 r.pos, .slice A27 r.old.length c27, .slice A28 r.new.length c28]]) hf rfl ff_13 (F13 _ r A15 c15 ho15.rd.top A16 c16 ho16.rd.top r A27 c27 ho27.rd.top A28 c28 ho28.rd.top (by omega) (by omega))) (fun _ _ h => ⟨fun _ => by obtain ⟨rfl, hE⟩ := h; exact hE, h⟩)) ?_; rintro a _ w11 ⟨rfl, hE⟩ hf
   replace hB4 := hB4.below hE
   replace hB19 := hB19.below hE
   replace hr_r := hr_r.below hE
   replace hs_r := hs_r.below hE
   replace ho12 := ho12.below hE
   replace ho13 := ho13.below hE
   replace ho15 := ho15.below hE
   replace ho16 := ho16.below hE
   replace ho27 := ho27.below hE
   replace ho28 := ho28.below hE
   replace hW := hW.trans (hE.mono hW.size)
   clear hE
   refine s_ev0 4 rfl (by kernel_rfl) hf trivial rfl rfl (fun _ => ev_not hf rfl) ?_; intro a hf
   refine s_done (by kernel_rfl) ?_
   refine hK26 _ _ ?_; try clear hK26 K26
   refine c_if hf rfl (fun hc29 => ?_) (fun hc29 => ?_)
   ·have hc29b := hc29
    simp at hc29
   ·have hc29b := hc29
    refine wp_skip ?_
    refine hK25 _ _ ?_; try clear hK25 K25
    refine wp_seq_k ?_; intro K30 hK30
    refine wp_region_lit ?_
    refine l_ev hf trivial rfl rfl (ev_assign hf rfl) ?_; intro a hf
    refine wpList_nil ?_
    refine hK30 _ _ ?_; try clear hK30 K30
    refine wp_ret ?_
    refine c_ret hf (res1 hf rfl rfl) ?_
    exact ⟨rfl, hW⟩
end Go.Proofs.YtfgnmflfiobkmaaGreat
namespace Go.Proofs.YtfgnmflfiobkmaaGreat
open Go.RowKit Go.ChangeShapes Go.WideShapes Go.Deep Go.Joins
theorem list_of {α : Type} {n : Nat} {Q : Nat → α → Prop} (h : ∀ i, i < n → ∃ g, Q i g) : ∃ l : List α, l.length = n ∧ ∀ i g, l[i]? = some g → Q i g := by
  induction n with
  | zero => exact ⟨[], rfl, fun i g h => by simp at h⟩
  | succ n ih =>
    obtain ⟨l, h1, h2⟩ := ih fun i hi => h i (by omega)
    obtain ⟨g, hg⟩ := h n (by omega)
    refine ⟨l ++ [g], by simp [h1], fun i g' hi => ?_⟩
    rcases Nat.lt_or_ge i n with hin | hin
    · rw [List.getElem?_append_left (by omega)] at hi
      exact h2 i g' hi
    · rw [List.getElem?_append_right (by omega)] at hi
      have : i - l.length = 0 := by
        rcases Nat.eq_zero_or_pos (i - l.length) with h | h
        · exact h
        · rw [List.getElem?_eq_none (by simp; omega)] at hi; cases hi
      rw [this] at hi
      injection hi with hi
      subst hi
      have : i = n := by omega
      subst this
      exact hg
theorem rd_of_cells {α : Type} {w : World} {enc : α → List Value} {sz : Nat} (hsz : ∀ x, (enc x).length = sz) (h0 : 0 < sz) {p : Addr} {l : List α}
    (h : ∀ i g, l[i]? = some g → ∀ j v, (enc g)[j]? = some v → w.cell? (p.add (i * sz + j)) = some v) : ∃ E, Rd w w.heap.size E enc (some p) l := by
  by_cases hl : l = []
  · subst hl; exact ⟨0, Rd.nil _ _ _ _ _⟩
  · obtain ⟨g0, l', rfl⟩ := List.exists_cons_of_ne_nil hl
    obtain ⟨v0, hv0⟩ : ∃ v, (enc g0)[0]? = some v := ⟨_, List.getElem?_eq_getElem (by rw [hsz]; exact h0)⟩
    have hc := h 0 g0 rfl 0 v0 hv0
    obtain ⟨b, off, spot⟩ := p
    have hb := cell_lt hc
    rw [addr_block] at hb
    have hsp : spot = none := by
      cases spot with
      | none => rfl
      | some s => simp [World.cell?, Addr.add] at hc; split at hc <;> simp_all
    subst hsp
    have hobj : ∃ cs E fz, w.heap[b]? = some (.cells cs E fz) := by
      rw [addr_off] at hc
      simp only [World.cell?] at hc
      split at hc
      · rename_i c E fz hh; exact ⟨c, E, fz, hh⟩
      · cases hc
    obtain ⟨cs, E, fz, hh⟩ := hobj
    refine ⟨E, fun _ => ⟨b, off, cs, fz, rfl, hb, hh, fun j v hj => ?_⟩⟩
    have hjl : j < ((g0 :: l').flatMap enc).length := (List.getElem?_eq_some_iff.1 hj).1
    rw [length_flatMap_enc hsz] at hjl
    obtain ⟨x, hx, h1⟩ := flatMap_idx hsz hjl
    rw [h1] at hj
    have := h _ _ hx _ _ hj
    rw [addr_off, show j / sz * sz + j % sz = j from by rw [Nat.mul_comm]; exact Nat.div_add_mod j sz] at this
    simpa [World.cell?, hh] using this
section
variable {H : Type} {enc : TypeId × Value → H} {w : World} {base fuel : Nat} {spare : Nat → Bool} {held : Bool}
theorem list3 {α : Type} {l : List α} (h : l.length = 3) : ∃ a b c, l = [a, b, c] := by
  match l, h with
  | [a, b, c], _ => exact ⟨a, b, c, rfl⟩
theorem cells134 : Tryz.prog.cellsOf 134 = 3 := by kernel_rfl
theorem cells3 : Tryz.prog.cellsOf 3 = 1 := by kernel_rfl
theorem trod_gate {cs : List Value} {x : DataW H × List MemPlace} (h : DataW.trod enc Tryz.prog w base spare held fuel 134 cs = some x) : ∃ g : Gt, cs = encG g := by
  obtain ⟨y0, y1, y2, n, _, hl, h0, h1, h2⟩ := trod_struct3 Tryz.underlying134 h
  rw [cells134] at hl
  obtain ⟨c0, c1, c2, rfl⟩ := list3 hl
  simp only [cells3] at h0 h1 h2
  obtain ⟨a, e0, _⟩ := DataW.trod_int Tryz.underlying3 h0
  obtain ⟨b, e1, _⟩ := DataW.trod_int Tryz.underlying3 h1
  obtain ⟨c, e2, _⟩ := DataW.trod_int Tryz.underlying3 h2
  simp at e0 e1 e2
  exact ⟨⟨a, b, c⟩, by rw [e0, e1, e2]; rfl⟩
set_option maxRecDepth 100000 in
theorem open_gates {cs : List Value} {x : DataW H × List MemPlace} (h : DataW.trod enc Tryz.prog w base spare held fuel 22 cs = some x) (hsp : ∀ b, spare b = true) :
    ∃ A l c E, cs = [.slice A l.length c] ∧ Rd w w.heap.size E encG A l ∧ l.length ≤ 9223372036854775807 := by
  rcases open_slice Tryz.underlying22 h with ⟨hcs, _⟩ | ⟨a, len, cap, m, n, D, Pl, hcs, hb, hl, hm, hmm, _, hi⟩
  · exact ⟨none, [], 0, 0, hcs, Rd.nil _ _ _ _ _, by simp⟩
  · rw [cells134] at hi
    have hlm : len ≤ m := by rw [hmm, hsp]; simpa using hl
    obtain ⟨l, h1, h2⟩ := list_of (n := len) (Q := fun i g => ∀ j v, (encG g)[j]? = some v → w.cell? (a.add (i * 3 + j)) = some v) fun i hilt => by
      obtain ⟨cs', hc, ht⟩ := hi i (by omega)
      obtain ⟨g, rfl⟩ := trod_gate ht
      obtain ⟨_, _, hat⟩ := World.cells?_some hc
      refine ⟨g, fun j v hj => ?_⟩
      have hj3 : j < 3 := by have := (List.getElem?_eq_some_iff.1 hj).1; simpa [encG] using this
      rw [← addr_add_add, hat j hj3]
      exact hj
    obtain ⟨E, hr⟩ := rd_of_cells encG_len (by decide) h2
    refine ⟨some a, l, cap, E, by rw [hcs, h1], hr, ?_⟩
    simp only [maxLen] at hm
    omega
end
end Go.Proofs.YtfgnmflfiobkmaaGreat
namespace Go.Proofs.YtfgnmflfiobkmaaGreat
open Go.ChangeShapes Go.WideShapes Go.ChangeAt Go.RowKit Go.Deep Go.Joins
set_option linter.unusedVariables false
theorem own : ownKnob Tryz.prog.godebug = none := by kernel_rfl
theorem laidOut : laidOutB Tryz.prog = true := by kernel_rfl
section
variable {H : Type} {enc : TypeId × Value → H} {P : Program}
theorem post_below {f : Func} {s : ChangeSpec} {fresh handsOn : Bool} {W W' : World} {args : Array Value} {v : Value} {ds gs : List (DataW H)} {before pa pv : List MemPlace}
    (hW : DataW.Whole enc P f.params.toList s.vars false W args.toList ds gs before)
    (hres : ∀ (b : Nat) (sp : Nat → Bool) (hd : Bool), DataW.TrodAll enc P W' b sp hd f.resultTypes.toList (v.resultList f.resultTypes.size) (s.fn H (ds ++ gs)).results [])
    (hargs : ∀ sp : Nat → Bool, (∀ p ∈ before, sp p.block = true) → DataW.TrodAll enc P W' 0 sp true f.params.toList args.toList (s.fn H (ds ++ gs)).args pa)
    (hvars : ∀ sp : Nat → Bool, (∀ p ∈ before, sp p.block = true) → DataW.TrodVars enc P W' sp s.vars (s.fn H (ds ++ gs)).vars pv)
    (hps : before = pa ++ pv) (hb : Below W.heap.size W W') :
    s.post enc P f false fresh handsOn false W args v W' := by
  have hlt : ∀ p ∈ before, p.block < W.heap.size := fun p hp => hW.lt p hp
  have hold : ∀ p ∈ before, (fun b => decide (b < W.heap.size)) p.block = true := fun p hp => by simpa using hlt p hp
  refine ⟨ds, gs, before, [], pa, pv, hW, hres _ _ _, hargs _ hold, hvars _ hold, World.keptBut_mono (fun p hp => ⟨hp, ?_⟩) (hb.frame (· ∈ before)), fun h => by cases h⟩
  rw [hps, List.mem_append] at hp
  exact Or.inr hp
end
set_option maxRecDepth 100000 in
theorem just_lifted (os : Os) (started : os.Started) (H : Type) (enc : TypeId × Value → H) :
    ReturnsInHanded {} Tryz.checked os 3 .any (Rows.fnExactIsJustifiedSpec.pre6 enc Tryz.prog Tryz.f3 Rows.fnExactIsJustifiedRow.domain false) (Rows.fnExactIsJustifiedSpec.post enc Tryz.prog Tryz.f3 false true false false) := by
  refine returnsInHanded_of_change (C := Tryz.checked) own started (by kernel_rfl) Tryz.func3
    (ChangeSpec.witness6 (enc := enc) (C := Tryz.checked) false ⟨#[], #[.int .i64 0, .agg #[.int .i64 0, .slice none 0 0, .slice none 0 0]], []⟩ 8 (by kernel_rfl) (by kernel_rfl) (by kernel_rfl) (by kernel_rfl)) ?_
  intro W base args ds gs before hval0 hW hcnd _
  have hval : ∀ (j : Nat) t v, Tryz.f3.params[j]? = some t → args[j]? = some v → Value.okWide Tryz.prog W .any base t v := hval0
  have hW' := hW
  obtain ⟨p, q, hA0, hV, rfl, hfz, hnd⟩ := hW
  have hA : DataW.TrodAll enc Tryz.prog W 0 (fun _ => true) true Tryz.f3.params.toList args.toList ds p := hA0
  rw [Tryz.params3] at hA hval
  obtain ⟨v0, v1, d0, d1, p0, p1, rfl, rfl, rfl, h0, h1⟩ := trodAll_two hA
  obtain ⟨rfl, rfl⟩ := trodVars_none hV
  have h1k := h1
  obtain ⟨n, rfl, rfl, rfl, wn⟩ := open_int Tryz.underlying3 (hval 0 3 v0 rfl rfl) h0
  obtain ⟨c0, c1, c2, y0, y1, y2, m, rfl, rfl, rfl, hy0, hy1, hy2⟩ := open_agg3 Tryz.underlying24 (by kernel_rfl) (by kernel_rfl) (hval 1 24 v1 rfl rfl) h1
  obtain ⟨a, e0, e0', wa⟩ := DataW.trod_int Tryz.underlying3 hy0
  obtain ⟨A, l, c, E1, e1, hr1, hl1⟩ := open_gates hy1 (fun _ => rfl)
  obtain ⟨B, k, d, E2, e2, hr2, hl2⟩ := open_gates hy2 (fun _ => rfl)
  simp at e0 e1 e2
  subst e0 e1 e2
  clear hA0 hval0
  simp only [List.append_nil] at hW'
  have hlt : ∀ x ∈ y0.2 ++ (y1.2 ++ y2.2), x.block < W.heap.size := fun x hx => hW'.lt x (by simpa using hx)
  refine Calls.mono (F3 W n (⟨a, l, k⟩ : Rp) A c hr1 B d hr2 hl1 hl2) fun e W' ⟨v, he, hv, hb⟩ => ?_
  subst hv
  refine ⟨_, he, post_below (pa := [] ++ (y0.2 ++ (y1.2 ++ y2.2))) (pv := []) hW' (fun _ _ _ => trodAll_mk1 (shut_bool Tryz.underlying4 true)) (fun sp hsp => ?_) (fun _ _ => rfl) (by simp) hb⟩
  refine trodAll_mk2 (shut_int Tryz.underlying3 wn) (WideElems.Trod_stays laidOut (by kernel_rfl) (of_decide_eq_true (by kernel_rfl)) h1k (fun x hx => hb.same (hlt x hx)) (fun x hx => hsp x (by simpa using hx)))
theorem just_holds : Rows.FnExactIsJustifiedSaid :=
  OpenClaim.holds_of_wide 3 Tryz.f3 rfl rfl rfl rfl rfl rfl rfl ⟨rfl, rfl, rfl, rfl, rfl⟩ rfl rfl rfl rfl rfl (by kernel_rfl) Tryz.func3 (by kernel_rfl)
    (of_decide_eq_true (by kernel_rfl)) (by unfold Func.isWrapper; first | (rw [if_pos (by decide +kernel)]; kernel_rfl) | (rw [if_neg (by decide +kernel)]; exact ⟨rfl, rfl⟩))
    (fun os started H enc _ => just_lifted os started H enc)
end Go.Proofs.YtfgnmflfiobkmaaGreat
